import PyProof.Rows.All
import Wide.All
import OpenK.AllK
import Wide.FinOn
import PyProof.Draws
import KE.GoesMore
import KE.GoesEnum
import HandS.ForMost
import HandS.TupAny
import HandS.CallLocal
import HandS.IsInst
import HandS.Strs
import HandS.DictComp
import HandS.Conv
import HandS.Codes
import HandS.Walk
import PySem.Challenge.RW_oncekinds_k17_whole_steps_of_parts
set_option Elab.async false
set_option linter.all false
/-! Plain mathematics: programs as trees, their words, contraction of one part, the unique rest. -/
namespace Tm
inductive Tk (α : Type) where
  | g | t (x : α) | u (x : α)
  deriving DecidableEq
inductive T (α : Type) where
  | var (x : α) | app (f a : T α) | lam (x : α) (b : T α)
section
variable {α : Type} [DecidableEq α]
def T.ws : T α → List (Tk α)
  | .var x => [.u x]
  | .app f a => .g :: (f.ws ++ a.ws)
  | .lam x b => .t x :: b.ws
def T.sz : T α → Nat
  | .var _ => 1
  | .app f a => f.sz + a.sz + 1
  | .lam _ b => b.sz + 1
def T.gv : T α → Nat
  | .var _ => 0
  | .app f a => f.gv + a.gv + 1
  | .lam _ b => b.gv
def T.occ : T α → List α
  | .var x => [x]
  | .app f a => f.occ ++ a.occ
  | .lam _ b => b.occ
def T.bnd : T α → List α
  | .var _ => []
  | .app f a => f.bnd ++ a.bnd
  | .lam x b => x :: b.bnd
def T.ok : T α → Prop
  | .var _ => True
  | .app f a => f.ok ∧ a.ok
  | .lam x b => x ∈ b.occ ∧ b.ok
def T.sub : T α → α → T α → T α
  | .var y, x, a => if y = x then a else .var y
  | .app f c, x, a => .app (f.sub x a) (c.sub x a)
  | .lam y b, x, a => .lam y (b.sub x a)
structure Good (t : T α) : Prop where
  ok : t.ok
  no : t.occ.Nodup
  nb : t.bnd.Nodup
inductive Step : T α → T α → Prop where
  | beta (x : α) (b a : T α) : Step (.app (.lam x b) a) (b.sub x a)
  | lam (x : α) {b b' : T α} : Step b b' → Step (.lam x b) (.lam x b')
  | fn {f f' : T α} (a : T α) : Step f f' → Step (.app f a) (.app f' a)
  | arg (f : T α) {a a' : T α} : Step a a' → Step (.app f a) (.app f a')
inductive Star : T α → T α → Prop where
  | refl (t : T α) : Star t t
  | head {a b c : T α} : Step a b → Star b c → Star a c
def Normal (t : T α) : Prop := ∀ t', ¬ Step t t'
theorem ws_len : ∀ t : T α, t.ws.length = t.sz
  | .var _ => rfl
  | .app f a => by
    have h1 := ws_len f
    have h2 := ws_len a
    simp only [T.ws, T.sz, List.length_cons, List.length_append]
    omega
  | .lam _ b => by
    have h1 := ws_len b
    simp only [T.ws, T.sz, List.length_cons]
    omega
theorem sz_pos : ∀ t : T α, 0 < t.sz
  | .var _ => Nat.one_pos
  | .app f a => Nat.succ_pos _
  | .lam _ b => Nat.succ_pos _
/-! ### one name put in -/
theorem sub_out (x : α) (a : T α) : ∀ t : T α, x ∉ t.occ → t.sub x a = t
  | .var y, h => by
    have : y ≠ x := fun e => h (by simp [T.occ, e])
    simp [T.sub, this]
  | .app f c, h => by
    have h1 : x ∉ f.occ := fun q => h (by simp [T.occ, q])
    have h2 : x ∉ c.occ := fun q => h (by simp [T.occ, q])
    simp [T.sub, sub_out x a f h1, sub_out x a c h2]
  | .lam y b, h => by simp [T.sub, sub_out x a b h]
/-- where the one name stands: the words, the names that stand, those that are taken -/
theorem sub_in (x : α) : ∀ t : T α, x ∈ t.occ → t.occ.Nodup →
    ∃ (pre post : List (Tk α)) (o1 o2 b1 b2 : List α), t.ws = pre ++ Tk.u x :: post ∧ t.occ = o1 ++ x :: o2 ∧ t.bnd = b1 ++ b2 ∧
      ∀ a : T α, (t.sub x a).ws = pre ++ (a.ws ++ post) ∧ (t.sub x a).occ = o1 ++ (a.occ ++ o2) ∧ (t.sub x a).bnd = b1 ++ (a.bnd ++ b2) ∧ (t.sub x a).gv = t.gv + a.gv ∧ (t.sub x a).sz + 1 = t.sz + a.sz
  | .var y, h, _ => by
    have e : x = y := by simpa [T.occ] using h
    subst e
    refine ⟨[], [], [], [], [], [], rfl, rfl, rfl, fun a => ?_⟩
    simp [T.sub, T.gv, T.sz, Nat.add_comm]
  | .app f c, h, hn => by
    have hn' : (f.occ ++ c.occ).Nodup := hn
    rw [List.nodup_append] at hn'
    obtain ⟨n1, n2, n3⟩ := hn'
    have h' : x ∈ f.occ ∨ x ∈ c.occ := by simpa [T.occ] using h
    rcases h' with hf | hc
    · obtain ⟨pre, post, o1, o2, b1, b2, e1, e2, e3, q⟩ := sub_in x f hf n1
      have hx : x ∉ c.occ := fun z => n3 x hf x z rfl
      refine ⟨Tk.g :: pre, post ++ c.ws, o1, o2 ++ c.occ, b1, b2 ++ c.bnd, ?_, ?_, ?_, fun a => ?_⟩
      · simp [T.ws, e1]
      · simp [T.occ, e2]
      · simp [T.bnd, e3]
      · obtain ⟨q1, q2, q3, q4, q5⟩ := q a
        simp only [T.sub, sub_out x a c hx, T.ws, T.occ, T.bnd, T.gv, T.sz, q1, q2, q3, q4]
        refine ⟨by simp, by simp, by simp, by omega, by omega⟩
    · obtain ⟨pre, post, o1, o2, b1, b2, e1, e2, e3, q⟩ := sub_in x c hc n2
      have hx : x ∉ f.occ := fun z => n3 x z x hc rfl
      refine ⟨Tk.g :: (f.ws ++ pre), post, f.occ ++ o1, o2, f.bnd ++ b1, b2, ?_, ?_, ?_, fun a => ?_⟩
      · simp [T.ws, e1]
      · simp [T.occ, e2]
      · simp [T.bnd, e3]
      · obtain ⟨q1, q2, q3, q4, q5⟩ := q a
        simp only [T.sub, sub_out x a f hx, T.ws, T.occ, T.bnd, T.gv, T.sz, q1, q2, q3, q4]
        refine ⟨by simp, by simp, by simp, by omega, by omega⟩
  | .lam y b, h, hn => by
    obtain ⟨pre, post, o1, o2, b1, b2, e1, e2, e3, q⟩ := sub_in x b h hn
    refine ⟨Tk.t y :: pre, post, o1, o2, y :: b1, b2, ?_, ?_, ?_, fun a => ?_⟩
    · simp [T.ws, e1]
    · simp [T.occ, e2]
    · simp [T.bnd, e3]
    · obtain ⟨q1, q2, q3, q4, q5⟩ := q a
      simp only [T.sub, T.ws, T.occ, T.bnd, T.gv, T.sz, q1, q2, q3, q4]
      refine ⟨by simp, by simp, by simp, trivial, by omega⟩
theorem sub_occ_of {x y : α} {a : T α} : ∀ {t : T α}, y ∈ t.occ → y ≠ x → y ∈ (t.sub x a).occ
  | .var z, h, hn => by
    have e : y = z := by simpa [T.occ] using h
    subst e
    simp [T.sub, hn, T.occ]
  | .app f c, h, hn => by
    have h' : y ∈ f.occ ∨ y ∈ c.occ := by simpa [T.occ] using h
    simp only [T.sub, T.occ, List.mem_append]
    rcases h' with q | q
    · exact .inl (sub_occ_of q hn)
    · exact .inr (sub_occ_of q hn)
  | .lam z b, h, hn => sub_occ_of (t := b) h hn
theorem sub_ok {x : α} {a : T α} (ha : a.ok) : ∀ {t : T α}, t.ok → x ∉ t.bnd → (t.sub x a).ok
  | .var z, _, _ => by
    simp only [T.sub]
    split
    · exact ha
    · exact trivial
  | .app f c, h, hn => by
    simp only [T.bnd, List.mem_append, not_or] at hn
    exact ⟨sub_ok ha h.1 hn.1, sub_ok ha h.2 hn.2⟩
  | .lam z b, h, hn => by
    simp only [T.bnd, List.mem_cons, not_or] at hn
    exact ⟨sub_occ_of h.1 fun e => hn.1 e.symm, sub_ok ha h.2 hn.2⟩
/-- a closed-up order of two puttings-in -/
theorem sub_sub {x y : α} {a d : T α} (hxy : y ≠ x) (hy : y ∉ a.occ) : ∀ c : T α, (c.sub x a).sub y (d.sub x a) = (c.sub y d).sub x a
  | .var z => by
    by_cases h1 : z = x
    · have h2 : ¬ z = y := fun e => hxy (e.symm.trans h1)
      simp [T.sub, h1, sub_out y _ a hy, Ne.symm hxy]
    · by_cases h2 : z = y
      · simp [T.sub, h1, h2, hxy]
      · simp [T.sub, h1, h2]
  | .app f c => by simp [T.sub, sub_sub hxy hy f, sub_sub hxy hy c]
  | .lam z b => by simp [T.sub, sub_sub hxy hy b]
/-! ### steps keep what is good -/
theorem step_names {t t' : T α} (s : Step t t') : Good t → ∃ x, x ∈ t.bnd ∧ (x :: t'.occ).Perm t.occ ∧ (x :: t'.bnd).Perm t.bnd ∧ t'.ok ∧ t'.gv + 1 = t.gv ∧ t'.sz + 3 = t.sz := by
  induction s with
  | beta x b a =>
    intro h
    obtain ⟨⟨⟨hx, hb⟩, ha⟩, no, nb⟩ := h
    have no' : (b.occ ++ a.occ).Nodup := no
    rw [List.nodup_append] at no'
    have nb' : (x :: (b.bnd ++ a.bnd)).Nodup := nb
    rw [List.nodup_cons] at nb'
    have hxb : x ∉ b.bnd := fun z => nb'.1 (List.mem_append_left _ z)
    obtain ⟨pre, post, o1, o2, b1, b2, e1, e2, e3, q⟩ := sub_in x b hx no'.1
    obtain ⟨q1, q2, q3, q4, q5⟩ := q a
    refine ⟨x, by simp [T.bnd], ?_, ?_, sub_ok ha hb hxb, ?_, ?_⟩
    · rw [q2]
      show (x :: (o1 ++ (a.occ ++ o2))).Perm (b.occ ++ a.occ)
      rw [e2]
      have z1 : (o1 ++ x :: o2 ++ a.occ).Perm (x :: (o1 ++ o2) ++ a.occ) := List.Perm.append_right _ List.perm_middle
      refine List.Perm.trans ?_ z1.symm
      show (x :: (o1 ++ (a.occ ++ o2))).Perm (x :: (o1 ++ o2 ++ a.occ))
      refine List.Perm.cons x ?_
      rw [List.append_assoc]
      exact List.Perm.append_left o1 List.perm_append_comm
    · rw [q3]
      show (x :: (b1 ++ (a.bnd ++ b2))).Perm (x :: (b.bnd ++ a.bnd))
      rw [e3]
      refine List.Perm.cons x ?_
      rw [List.append_assoc]
      exact List.Perm.append_left b1 List.perm_append_comm
    · rw [q4]
      rfl
    · show (b.sub x a).sz + 3 = (b.sz + 1) + a.sz + 1
      omega
  | lam y s ih =>
    intro h
    rename_i b b'
    obtain ⟨⟨hy, hb⟩, no, nb⟩ := h
    have nb' : (y :: b.bnd).Nodup := nb
    rw [List.nodup_cons] at nb'
    obtain ⟨x, hx, p1, p2, k, g, z⟩ := ih ⟨hb, no, nb'.2⟩
    refine ⟨x, by simp [T.bnd, hx], p1, ?_, ⟨?_, k⟩, g, ?_⟩
    · show (x :: y :: b'.bnd).Perm (y :: b.bnd)
      exact (List.Perm.swap y x _).trans (List.Perm.cons y p2)
    · have : y ∈ x :: b'.occ := p1.symm.subset hy
      rcases List.mem_cons.mp this with e | e
      · exact absurd hx (e ▸ nb'.1)
      · exact e
    · show b'.sz + 1 + 3 = b.sz + 1
      omega
  | fn a s ih =>
    intro h
    rename_i f f'
    obtain ⟨⟨hf, ha⟩, no, nb⟩ := h
    have no' : (f.occ ++ a.occ).Nodup := no
    have nb' : (f.bnd ++ a.bnd).Nodup := nb
    rw [List.nodup_append] at no' nb'
    obtain ⟨x, hx, p1, p2, k, g, z⟩ := ih ⟨hf, no'.1, nb'.1⟩
    refine ⟨x, by simp [T.bnd, hx], ?_, ?_, ⟨k, ha⟩, ?_, ?_⟩
    · exact List.Perm.append_right a.occ p1
    · exact List.Perm.append_right a.bnd p2
    · show f'.gv + a.gv + 1 + 1 = f.gv + a.gv + 1
      omega
    · show f'.sz + a.sz + 1 + 3 = f.sz + a.sz + 1
      omega
  | arg f s ih =>
    intro h
    rename_i a a'
    obtain ⟨⟨hf, ha⟩, no, nb⟩ := h
    have no' : (f.occ ++ a.occ).Nodup := no
    have nb' : (f.bnd ++ a.bnd).Nodup := nb
    rw [List.nodup_append] at no' nb'
    obtain ⟨x, hx, p1, p2, k, g, z⟩ := ih ⟨ha, no'.2.1, nb'.2.1⟩
    refine ⟨x, by simp [T.bnd, hx], ?_, ?_, ⟨hf, k⟩, ?_, ?_⟩
    · show (x :: (f.occ ++ a'.occ)).Perm (f.occ ++ a.occ)
      exact List.perm_middle.symm.trans (List.Perm.append_left f.occ p1)
    · show (x :: (f.bnd ++ a'.bnd)).Perm (f.bnd ++ a.bnd)
      exact List.perm_middle.symm.trans (List.Perm.append_left f.bnd p2)
    · show f.gv + a'.gv + 1 + 1 = f.gv + a.gv + 1
      omega
    · show f.sz + a'.sz + 1 + 3 = f.sz + a.sz + 1
      omega
theorem Good.step {t t' : T α} (h : Good t) (s : Step t t') : Good t' := by
  obtain ⟨x, _, p1, p2, k, _⟩ := step_names s h
  have n1 : (x :: t'.occ).Nodup := p1.nodup_iff.mpr h.no
  have n2 : (x :: t'.bnd).Nodup := p2.nodup_iff.mpr h.nb
  exact ⟨k, (List.nodup_cons.mp n1).2, (List.nodup_cons.mp n2).2⟩
theorem Good.lam {x : α} {b : T α} (h : Good (.lam x b)) : Good b := ⟨h.ok.2, h.no, (List.nodup_cons.mp h.nb).2⟩
theorem Good.fn {f a : T α} (h : Good (.app f a)) : Good f := ⟨h.ok.1, (List.nodup_append.mp (show (f.occ ++ a.occ).Nodup from h.no)).1, (List.nodup_append.mp (show (f.bnd ++ a.bnd).Nodup from h.nb)).1⟩
theorem Good.arg {f a : T α} (h : Good (.app f a)) : Good a := ⟨h.ok.2, (List.nodup_append.mp (show (f.occ ++ a.occ).Nodup from h.no)).2.1, (List.nodup_append.mp (show (f.bnd ++ a.bnd).Nodup from h.nb)).2.1⟩
/-- a name that is taken stands within its body alone -/
theorem bnd_occ : ∀ {t : T α}, t.ok → ∀ {y : α}, y ∈ t.bnd → y ∈ t.occ
  | .var _, _, _, h => by simp [T.bnd] at h
  | .app f a, k, y, h => by
    have h' : y ∈ f.bnd ∨ y ∈ a.bnd := by simpa [T.bnd] using h
    simp only [T.occ, List.mem_append]
    rcases h' with q | q
    · exact .inl (bnd_occ k.1 q)
    · exact .inr (bnd_occ k.2 q)
  | .lam x b, k, y, h => by
    have h' : y = x ∨ y ∈ b.bnd := by simpa [T.bnd] using h
    rcases h' with q | q
    · exact q ▸ k.1
    · exact bnd_occ (t := b) k.2 q
/-! ### two steps close up -/
theorem step_sub {x : α} {a : T α} {b b' : T α} (s : Step b b') : x ∉ b.bnd → (∀ y ∈ b.bnd, y ∉ a.occ) → Step (b.sub x a) (b'.sub x a) := by
  induction s with
  | beta y c d =>
    intro hx hy
    have h1 : y ≠ x := fun e => hx (by simp [T.bnd, e])
    have h2 : y ∉ a.occ := hy y (by simp [T.bnd])
    rw [← sub_sub h1 h2 c]
    exact Step.beta y (c.sub x a) (d.sub x a)
  | lam y s ih =>
    intro hx hy
    exact Step.lam y (ih (fun z => hx (by simp [T.bnd, z])) fun y' h => hy y' (by simp [T.bnd, h]))
  | fn c s ih =>
    intro hx hy
    exact Step.fn (c.sub x a) (ih (fun z => hx (by simp [T.bnd, z])) fun y' h => hy y' (by simp [T.bnd, h]))
  | arg c s ih =>
    intro hx hy
    exact Step.arg (c.sub x a) (ih (fun z => hx (by simp [T.bnd, z])) fun y' h => hy y' (by simp [T.bnd, h]))
theorem sub_step {x : α} {a a' : T α} (s : Step a a') : ∀ {b : T α}, x ∈ b.occ → b.occ.Nodup → Step (b.sub x a) (b.sub x a')
  | .var y, h, _ => by
    have e : x = y := by simpa [T.occ] using h
    simpa [T.sub, e] using s
  | .app f c, h, hn => by
    have hn' : (f.occ ++ c.occ).Nodup := hn
    rw [List.nodup_append] at hn'
    obtain ⟨n1, n2, n3⟩ := hn'
    have h' : x ∈ f.occ ∨ x ∈ c.occ := by simpa [T.occ] using h
    simp only [T.sub]
    rcases h' with hf | hc
    · have hx : x ∉ c.occ := fun z => n3 x hf x z rfl
      rw [sub_out x a c hx, sub_out x a' c hx]
      exact Step.fn c (sub_step s hf n1)
    · have hx : x ∉ f.occ := fun z => n3 x z x hc rfl
      rw [sub_out x a f hx, sub_out x a' f hx]
      exact Step.arg f (sub_step s hc n2)
  | .lam y b, h, hn => Step.lam y (sub_step (b := b) s h hn)
theorem diamond {t a : T α} (s : Step t a) : Good t → ∀ {b : T α}, Step t b → a = b ∨ ∃ c, Step a c ∧ Step b c := by
  induction s with
  | beta x b d =>
    intro h c s2
    have no' : (b.occ ++ d.occ).Nodup := h.no
    rw [List.nodup_append] at no'
    have nb' : (x :: (b.bnd ++ d.bnd)).Nodup := h.nb
    rw [List.nodup_cons] at nb'
    cases s2 with
    | beta => exact .inl rfl
    | fn _ s3 =>
      cases s3 with
      | lam _ s4 =>
        refine .inr ⟨_, step_sub s4 (fun z => nb'.1 (List.mem_append_left _ z)) (fun y hy hd => ?_), Step.beta x _ d⟩
        exact no'.2.2 y (bnd_occ h.ok.1.2 hy) y hd rfl
    | arg _ s3 => exact .inr ⟨_, sub_step s3 h.ok.1.1 no'.1, Step.beta x b _⟩
  | lam x s ih =>
    intro h c s2
    cases s2 with
    | lam _ s3 =>
      rcases ih h.lam s3 with e | ⟨d, d1, d2⟩
      · exact .inl (by rw [e])
      · exact .inr ⟨_, Step.lam x d1, Step.lam x d2⟩
  | fn d s ih =>
    intro h c s2
    cases s2 with
    | beta x b _ =>
      have no' : (b.occ ++ d.occ).Nodup := h.no
      rw [List.nodup_append] at no'
      have nb' : (x :: (b.bnd ++ d.bnd)).Nodup := h.nb
      rw [List.nodup_cons] at nb'
      cases s with
      | lam _ s4 =>
        refine .inr ⟨_, Step.beta x _ d, step_sub s4 (fun z => nb'.1 (List.mem_append_left _ z)) (fun y hy hd => ?_)⟩
        exact no'.2.2 y (bnd_occ h.ok.1.2 hy) y hd rfl
    | fn _ s3 =>
      rcases ih h.fn s3 with e | ⟨k, k1, k2⟩
      · exact .inl (by rw [e])
      · exact .inr ⟨_, Step.fn d k1, Step.fn d k2⟩
    | arg _ s3 => exact .inr ⟨_, Step.arg _ s3, Step.fn _ s⟩
  | arg f s ih =>
    intro h c s2
    cases s2 with
    | beta x b _ =>
      have no' : (b.occ ++ _).Nodup := h.no
      rw [List.nodup_append] at no'
      exact .inr ⟨_, Step.beta x b _, sub_step s h.ok.1.1 no'.1⟩
    | fn _ s3 => exact .inr ⟨_, Step.fn _ s3, Step.arg _ s⟩
    | arg _ s3 =>
      rcases ih h.arg s3 with e | ⟨k, k1, k2⟩
      · exact .inl (by rw [e])
      · exact .inr ⟨_, Step.arg f k1, Step.arg f k2⟩
theorem Star.one {a b : T α} (s : Step a b) : Star a b := .head s (.refl b)
theorem Star.trans {a b c : T α} (h : Star a b) : Star b c → Star a c := by
  induction h with
  | refl _ => exact id
  | head s _ ih => exact fun q => .head s (ih q)
theorem Star.good {a b : T α} (h : Star a b) : Good a → Good b := by
  induction h with
  | refl _ => exact id
  | head s _ ih => exact fun q => ih (q.step s)
/-- the way to a rest may begin with any step -/
theorem star_any : ∀ (n : Nat) {t r t' : T α}, t.sz ≤ n → Good t → Star t r → Normal r → Step t t' → Star t' r
  | 0, t, _, _, hn, _, _, _, _ => absurd (sz_pos t) (by omega)
  | n + 1, t, r, t', hn, hg, hr, hr0, s => by
    cases hr with
    | refl => exact absurd s (hr0 t')
    | head s1 q =>
      rename_i b
      rcases diamond s1 hg s with e | ⟨c, c1, c2⟩
      · exact e ▸ q
      · obtain ⟨_, _, _, _, _, _, z⟩ := step_names s1 hg
        exact .head c2 (star_any n (by omega) (hg.step s1) q hr0 c1)
theorem rest_one : ∀ (n : Nat) {t r r' : T α}, t.sz ≤ n → Good t → Star t r → Normal r → Star t r' → Normal r' → r = r'
  | 0, t, _, _, hn, _, _, _, _, _ => absurd (sz_pos t) (by omega)
  | n + 1, t, r, r', hn, hg, h1, n1, h2, n2 => by
    cases h1 with
    | refl =>
      cases h2 with
      | refl => rfl
      | head s _ => exact absurd s (n1 _)
    | head s q =>
      obtain ⟨_, _, _, _, _, _, z⟩ := step_names s hg
      exact rest_one n (by omega) (hg.step s) q n1 (star_any (n + 1) hn hg h2 n2 s) n2
/-- r is the rest of t -/
structure Rest (t r : T α) : Prop where
  st : Star t r
  nm : Normal r
theorem Rest.uniq {t r r' : T α} (hg : Good t) (h : Rest t r) (h' : Rest t r') : r = r' := rest_one t.sz (Nat.le_refl _) hg h.st h.nm h'.st h'.nm
/-- what t comes to by steps has the same rest -/
theorem Rest.of_star {t s r : T α} (h : Rest s r) (q : Star t s) : Rest t r := ⟨q.trans h.st, h.nm⟩
/-! ### the rest and what is around it -/
theorem Star.lam (x : α) {a b : T α} (h : Star a b) : Star (.lam x a) (.lam x b) := by
  induction h with
  | refl _ => exact .refl _
  | head s _ ih => exact .head (.lam x s) ih
theorem Rest.lam (x : α) {t r : T α} (h : Rest t r) : Rest (.lam x t) (.lam x r) :=
  ⟨h.st.lam x, fun t' s => by cases s with | lam _ s => exact h.nm _ s⟩
theorem star_names {t r : T α} (h : Star t r) : Good t → (∀ y ∈ r.occ, y ∈ t.occ) ∧ (∀ y ∈ r.bnd, y ∈ t.bnd) ∧ (∀ y ∈ t.occ, y ∉ t.bnd → y ∈ r.occ) ∧ r.sz ≤ t.sz := by
  induction h with
  | refl _ => exact fun _ => ⟨fun _ h => h, fun _ h => h, fun _ h _ => h, Nat.le_refl _⟩
  | head s _ ih =>
    intro hg
    obtain ⟨x, hx, p1, p2, _, _, z⟩ := step_names s hg
    obtain ⟨i1, i2, i3, i4⟩ := ih (hg.step s)
    refine ⟨fun y h => p1.subset (List.mem_cons_of_mem _ (i1 y h)), fun y h => p2.subset (List.mem_cons_of_mem _ (i2 y h)), fun y h hn => ?_, by omega⟩
    have h1 : y ∈ x :: _ := p1.symm.subset h
    rcases List.mem_cons.mp h1 with e | e
    · exact absurd hx (e ▸ hn)
    · exact i3 y e fun q => hn (p2.subset (List.mem_cons_of_mem _ q))
theorem star_sub {x : α} {t t' a : T α} (h : Star t t') : Good t → x ∉ t.bnd → (∀ y ∈ t.bnd, y ∉ a.occ) → Star (t.sub x a) (t'.sub x a) := by
  induction h with
  | refl _ => exact fun _ _ _ => .refl _
  | head s _ ih =>
    intro hg hx hy
    obtain ⟨_, _, _, p2, _⟩ := step_names s hg
    have sb : ∀ y, y ∈ T.bnd _ → y ∈ T.bnd _ := fun y h => p2.subset (List.mem_cons_of_mem _ h)
    exact .head (step_sub s hx hy) (ih (hg.step s) (fun z => hx (sb x z)) fun y h => hy y (sb y h))
theorem sub_star {x : α} {t a a' : T α} (h : Star a a') (hx : x ∈ t.occ) (hn : t.occ.Nodup) : Star (t.sub x a) (t.sub x a') := by
  induction h with
  | refl _ => exact .refl _
  | head s _ ih => exact .head (sub_step s hx hn) ih
theorem good_sub {x : α} {t a : T α} (ht : Good t) (ha : Good a) (hx : x ∈ t.occ) (hb : x ∉ t.bnd) (d1 : ∀ y ∈ t.occ, y ≠ x → y ∉ a.occ) (d2 : ∀ y ∈ t.bnd, y ∉ a.bnd) : Good (t.sub x a) := by
  obtain ⟨pre, post, o1, o2, b1, b2, e1, e2, e3, q⟩ := sub_in x t hx ht.no
  obtain ⟨q1, q2, q3, q4, q5⟩ := q a
  have no := ht.no
  have nb := ht.nb
  rw [e2] at no
  rw [e3] at nb
  refine ⟨sub_ok ha.ok ht.ok hb, ?_, ?_⟩
  · rw [q2]
    have p : (o1 ++ (a.occ ++ o2)).Perm ((o1 ++ o2) ++ a.occ) := by
      rw [List.append_assoc]
      exact List.Perm.append_left o1 List.perm_append_comm
    refine p.nodup_iff.mpr (List.nodup_append.mpr ⟨?_, ha.no, fun y h1 z h2 e => ?_⟩)
    · exact (List.nodup_cons.mp (List.perm_middle.nodup_iff.mp no)).2
    · subst e
      have hyx : y ≠ x := fun e => (List.nodup_cons.mp (List.perm_middle.nodup_iff.mp no)).1 (e ▸ h1)
      refine d1 y ?_ hyx h2
      rw [e2]
      rcases List.mem_append.mp h1 with z | z
      · exact List.mem_append_left _ z
      · exact List.mem_append_right _ (List.mem_cons_of_mem _ z)
  · rw [q3]
    have p : (b1 ++ (a.bnd ++ b2)).Perm ((b1 ++ b2) ++ a.bnd) := by
      rw [List.append_assoc]
      exact List.Perm.append_left b1 List.perm_append_comm
    refine p.nodup_iff.mpr (List.nodup_append.mpr ⟨nb, ha.nb, fun y h1 z h2 e => ?_⟩)
    subst e
    exact d2 y (e3 ▸ h1) h2
/-- put in: the rest is found piece by piece -/
theorem Rest.sub {x : α} {t a rt ra r : T α} (ht : Good t) (hx : x ∈ t.occ) (hb : x ∉ t.bnd) (d1 : ∀ y ∈ t.bnd, y ∉ a.occ) (h1 : Rest t rt) (h2 : Rest a ra) (h : Rest (rt.sub x ra) r) : Rest (t.sub x a) r := by
  have n := star_names h1.st ht
  refine h.of_star ((star_sub h1.st ht hb d1).trans (sub_star h2.st (n.2.2.1 x hx hb) (h1.st.good ht).no))
end
end Tm
/-! Places, ends, forests, other names. -/
namespace Tm
section
variable {α : Type} [DecidableEq α]
def isU : Tk α → Option α
  | .u x => some x
  | _ => none
def isT : Tk α → Option α
  | .t x => some x
  | _ => none
theorem bnd_ws : ∀ t : T α, t.ws.filterMap isT = t.bnd
  | .var _ => rfl
  | .app f a => by simp [T.ws, T.bnd, List.filterMap_cons, isT, bnd_ws f, bnd_ws a]
  | .lam _ b => by simp [T.ws, T.bnd, List.filterMap_cons, isT, bnd_ws b]
/-- F puts a tree at one place, with these words, names and takes around it -/
structure Ctx (F : T α → T α) (pre post : List (Tk α)) (o1 o2 b1 b2 : List α) : Prop where
  ws : ∀ s, (F s).ws = pre ++ (s.ws ++ post)
  occ : ∀ s, (F s).occ = o1 ++ (s.occ ++ o2)
  bnd : ∀ s, (F s).bnd = b1 ++ (s.bnd ++ b2)
  step : ∀ {s s'}, Step s s' → Step (F s) (F s')
  ok1 : ∀ {s}, (F s).ok → s.ok
  ok2 : ∀ {s s'}, (F s).ok → s'.ok → (∀ x ∈ b1, x ∈ s.occ → x ∈ s'.occ) → (F s').ok
  bt : b1 = pre.filterMap isT
theorem Ctx.id : Ctx (fun s : T α => s) [] [] [] [] [] [] :=
  ⟨fun s => by simp, fun s => by simp, fun s => by simp, fun h => h, fun h => h, fun _ h _ => h, rfl⟩
theorem Ctx.lam {F : T α → T α} {pre post : List (Tk α)} {o1 o2 b1 b2 : List α} (C : Ctx F pre post o1 o2 b1 b2) (x : α) : Ctx (fun s => .lam x (F s)) (.t x :: pre) post o1 o2 (x :: b1) b2 where
  ws := fun s => by simp [T.ws, C.ws s]
  occ := fun s => by simp [T.occ, C.occ s]
  bnd := fun s => by simp [T.bnd, C.bnd s]
  step := fun h => .lam x (C.step h)
  ok1 := fun h => C.ok1 h.2
  ok2 := fun {s s'} h h' hx => by
    refine ⟨?_, C.ok2 h.2 h' fun y hy => hx y (List.mem_cons_of_mem _ hy)⟩
    have h1 : x ∈ (F s).occ := h.1
    rw [C.occ] at h1 ⊢
    rcases List.mem_append.mp h1 with z | z
    · exact List.mem_append_left _ z
    · rcases List.mem_append.mp z with z | z
      · exact List.mem_append_right _ (List.mem_append_left _ (hx x List.mem_cons_self z))
      · exact List.mem_append_right _ (List.mem_append_right _ z)
  bt := by rw [C.bt]; simp [List.filterMap_cons, isT]
theorem Ctx.fn {F : T α → T α} {pre post : List (Tk α)} {o1 o2 b1 b2 : List α} (C : Ctx F pre post o1 o2 b1 b2) (a : T α) : Ctx (fun s => .app (F s) a) (.g :: pre) (post ++ a.ws) o1 (o2 ++ a.occ) b1 (b2 ++ a.bnd) where
  ws := fun s => by simp [T.ws, C.ws s]
  occ := fun s => by simp [T.occ, C.occ s]
  bnd := fun s => by simp [T.bnd, C.bnd s]
  step := fun h => .fn a (C.step h)
  ok1 := fun h => C.ok1 h.1
  ok2 := fun {s s'} h h' hx => ⟨C.ok2 h.1 h' hx, h.2⟩
  bt := by rw [C.bt]; simp [List.filterMap_cons, isT]
theorem Ctx.arg {F : T α → T α} {pre post : List (Tk α)} {o1 o2 b1 b2 : List α} (C : Ctx F pre post o1 o2 b1 b2) (f : T α) : Ctx (fun s => .app f (F s)) (.g :: (f.ws ++ pre)) post (f.occ ++ o1) o2 (f.bnd ++ b1) b2 where
  ws := fun s => by simp [T.ws, C.ws s]
  occ := fun s => by simp [T.occ, C.occ s]
  bnd := fun s => by simp [T.bnd, C.bnd s]
  step := fun h => .arg f (C.step h)
  ok1 := fun h => C.ok1 h.2
  ok2 := fun {s s'} h h' hx => ⟨h.1, C.ok2 h.2 h' fun y hy => hx y (List.mem_append_right _ hy)⟩
  bt := by rw [C.bt, ← bnd_ws]; simp [List.filterMap_cons, isT]
theorem Ctx.star {F : T α → T α} {pre post : List (Tk α)} {o1 o2 b1 b2 : List α} (C : Ctx F pre post o1 o2 b1 b2) {s s' : T α} (h : Star s s') : Star (F s) (F s') := by
  induction h with
  | refl _ => exact .refl _
  | head q _ ih => exact .head (C.step q) ih
/-- the index behind the part at each place, counted from k -/
def T.ends : T α → Nat → List Nat
  | .var _, k => [k + 1]
  | .app f a, k => (k + (f.sz + a.sz + 1)) :: (f.ends (k + 1) ++ a.ends (k + 1 + f.sz))
  | .lam _ b, k => (k + (b.sz + 1)) :: b.ends (k + 1)
theorem ends_len : ∀ (t : T α) (k : Nat), (t.ends k).length = t.sz
  | .var _, _ => rfl
  | .app f a, k => by simp [T.ends, T.sz, ends_len f, ends_len a]
  | .lam _ b, k => by simp [T.ends, T.sz, ends_len b]
/-- each place is a place of a part -/
theorem ctx_at : ∀ (t : T α) (p k : Nat), p < t.sz → ∃ (F : T α → T α) (s : T α) (pre post : List (Tk α)) (o1 o2 b1 b2 : List α),
    Ctx F pre post o1 o2 b1 b2 ∧ F s = t ∧ pre.length = p ∧ (t.ends k)[p]? = some (k + p + s.sz)
  | .var x, p, k, h => by
    have e : p = 0 := by
      have : p < 1 := h
      omega
    subst e
    exact ⟨_, .var x, [], [], [], [], [], [], Ctx.id, rfl, rfl, rfl⟩
  | .lam x b, 0, k, h => ⟨_, .lam x b, [], [], [], [], [], [], Ctx.id, rfl, rfl, rfl⟩
  | .lam x b, p + 1, k, h => by
    obtain ⟨F, s, pre, post, o1, o2, b1, b2, C, e, l, q⟩ := ctx_at b p (k + 1) (by have : p + 1 < b.sz + 1 := h; omega)
    refine ⟨_, s, _, _, _, _, _, _, C.lam x, by rw [e], by simp [l], ?_⟩
    show (b.ends (k + 1))[p]? = _
    rw [q]
    congr 1
    omega
  | .app f a, 0, k, h => ⟨_, .app f a, [], [], [], [], [], [], Ctx.id, rfl, rfl, rfl⟩
  | .app f a, p + 1, k, h => by
    by_cases hp : p < f.sz
    · obtain ⟨F, s, pre, post, o1, o2, b1, b2, C, e, l, q⟩ := ctx_at f p (k + 1) hp
      refine ⟨_, s, _, _, _, _, _, _, C.fn a, by rw [e], by simp [l], ?_⟩
      show (f.ends (k + 1) ++ a.ends (k + 1 + f.sz))[p]? = _
      rw [List.getElem?_append_left (by rw [ends_len]; exact hp), q]
      congr 1
      omega
    · obtain ⟨F, s, pre, post, o1, o2, b1, b2, C, e, l, q⟩ := ctx_at a (p - f.sz) (k + 1 + f.sz) (by have : p + 1 < f.sz + a.sz + 1 := h; omega)
      refine ⟨_, s, _, _, _, _, _, _, C.arg f, by rw [e], by simp [l, ws_len]; omega, ?_⟩
      show (f.ends (k + 1) ++ a.ends (k + 1 + f.sz))[p]? = _
      rw [List.getElem?_append_right (by rw [ends_len]; omega), ends_len, q]
      congr 1
      omega
theorem Ctx.good {F : T α → T α} {pre post : List (Tk α)} {o1 o2 b1 b2 : List α} (C : Ctx F pre post o1 o2 b1 b2) {s : T α} (h : Good (F s)) : Good s := by
  have no := h.no
  have nb := h.nb
  rw [C.occ, List.nodup_append, List.nodup_append] at no
  rw [C.bnd, List.nodup_append, List.nodup_append] at nb
  exact ⟨C.ok1 h.ok, no.2.1.1, nb.2.1.1⟩
theorem Ctx.at {F : T α → T α} {pre post : List (Tk α)} {o1 o2 b1 b2 : List α} (C : Ctx F pre post o1 o2 b1 b2) (s : T α) (i : Nat) (h : i < s.sz) : (F s).ws[pre.length + i]? = s.ws[i]? := by
  rw [C.ws, List.getElem?_append_right (Nat.le_add_right _ _), Nat.add_sub_cancel_left, List.getElem?_append_left (by rw [ws_len]; exact h)]
/-- words are read in one way -/
theorem ws_inj : ∀ (s s' : T α) {r r' : List (Tk α)}, s.ws ++ r = s'.ws ++ r' → s = s' ∧ r = r'
  | .var x, .var y, r, r', h => by
    simp only [T.ws, List.cons_append, List.nil_append, List.cons.injEq, Tk.u.injEq] at h
    exact ⟨by rw [h.1], h.2⟩
  | .var x, .app f a, r, r', h => by simp [T.ws] at h
  | .var x, .lam y b, r, r', h => by simp [T.ws] at h
  | .app f a, .var y, r, r', h => by simp [T.ws] at h
  | .app f a, .lam y b, r, r', h => by simp [T.ws] at h
  | .lam x b, .var y, r, r', h => by simp [T.ws] at h
  | .lam x b, .app f a, r, r', h => by simp [T.ws] at h
  | .lam x b, .lam y c, r, r', h => by
    simp only [T.ws, List.cons_append, List.cons.injEq, Tk.t.injEq] at h
    obtain ⟨e1, e2⟩ := ws_inj b c h.2
    exact ⟨by rw [h.1, e1], e2⟩
  | .app f a, .app g c, r, r', h => by
    simp only [T.ws, List.cons_append, List.cons.injEq, List.append_assoc, true_and] at h
    obtain ⟨e1, e2⟩ := ws_inj f g h
    obtain ⟨e3, e4⟩ := ws_inj a c e2
    exact ⟨by rw [e1, e3], e4⟩
theorem ws_one {s s' : T α} (h : s.ws = s'.ws) : s = s' := (ws_inj s s' (r := []) (r' := []) (by rw [h])).1
theorem ends_ws {t : T α} {pre post : List (Tk α)} {s : T α} (h : t.ws = pre ++ (s.ws ++ post)) (k : Nat) : (t.ends k)[pre.length]? = some (k + pre.length + s.sz) := by
  have hl : pre.length < t.sz := by
    have z := sz_pos s
    rw [← ws_len t, h]
    simp only [List.length_append, ws_len]
    omega
  obtain ⟨F, s', pre', post', o1, o2, b1, b2, C, e, l, q⟩ := ctx_at t pre.length k hl
  rw [q]
  have w := C.ws s'
  rw [e, h] at w
  have d := congrArg (List.drop pre.length) w
  rw [List.drop_left, List.drop_left' l] at d
  rw [(ws_inj s s' d).1]
/-! ### a step by its place -/
def redex (ws : List (Tk α)) (p : Nat) : Prop := ws[p]? = some Tk.g ∧ ∃ x, ws[p + 1]? = some (Tk.t x)
/-- a place where a step can be done, and what the step's words are -/
theorem redex_at {t : T α} (hg : Good t) {p : Nat} (h : redex t.ws p) : ∃ (F : T α → T α) (x : α) (b a : T α) (pre post : List (Tk α)) (o1 o2 b1 b2 : List α) (bp bq : List (Tk α)),
    Ctx F pre post o1 o2 b1 b2 ∧ F (.app (.lam x b) a) = t ∧ pre.length = p ∧ (t.ends 0)[p]? = some (p + (b.sz + a.sz + 2)) ∧ (t.ends 0)[p + 2]? = some (p + 2 + b.sz) ∧
    b.ws = bp ++ Tk.u x :: bq ∧ (b.sub x a).ws = bp ++ (a.ws ++ bq) ∧ Step t (F (b.sub x a)) := by
  obtain ⟨h1, x, h2⟩ := h
  have hp : p < t.sz := by
    rw [← ws_len]
    exact (List.getElem?_eq_some_iff.mp h1).1
  obtain ⟨F, s, pre, post, o1, o2, b1, b2, C, e, l, q⟩ := ctx_at t p 0 hp
  subst e
  have c0 := C.at s 0 (sz_pos s)
  rw [Nat.add_zero, l, h1] at c0
  cases s with
  | var y => simp [T.ws] at c0
  | lam y b => simp [T.ws] at c0
  | app f a =>
    have c1 := C.at (.app f a) 1 (by have := sz_pos f; simp only [T.sz]; omega)
    rw [l, h2] at c1
    have c1' : some (Tk.t x) = (f.ws ++ a.ws)[0]? := c1
    cases f with
    | var y => simp [T.ws] at c1'
    | app f g => simp [T.ws] at c1'
    | lam y b =>
      have e : x = y := by simpa [T.ws] using c1'
      subst e
      have hs := C.good hg
      obtain ⟨bp, bq, u1, u2, v1, v2, e1, e2, e3, qq⟩ := sub_in x b hs.fn.ok.1 hs.fn.no
      refine ⟨F, x, b, a, pre, post, o1, o2, b1, b2, bp, bq, C, rfl, l, ?_, ?_, e1, (qq a).1, C.step (.beta x b a)⟩
      · rw [q]
        simp only [T.sz]
        congr 1
        omega
      · have w2 : (F (.app (.lam x b) a)).ws = (pre ++ [.g, .t x]) ++ (b.ws ++ (a.ws ++ post)) := by simp [C.ws, T.ws]
        have q2 := ends_ws w2 0
        have l2 : (pre ++ [Tk.g, Tk.t x]).length = p + 2 := by simp [l]
        rw [l2] at q2
        rw [q2]
        congr 1
        omega
/-- the five pieces of a step -/
theorem step_pieces {t : T α} (hg : Good t) {p : Nat} (h : redex t.ws p) : ∃ (t' : T α) (x : α) (use be en : Nat), Step t t' ∧
    t.ws[p + 1]? = some (Tk.t x) ∧ t.ws[use]? = some (Tk.u x) ∧ (t.ends 0)[p]? = some en ∧ (t.ends 0)[p + 2]? = some be ∧ p + 2 ≤ use ∧ use + 1 ≤ be ∧ be ≤ en ∧ en ≤ t.ws.length ∧
    t'.ws = t.ws.take p ++ ((t.ws.drop (p + 2)).take (use - (p + 2)) ++ ((t.ws.drop be).take (en - be) ++ ((t.ws.drop (use + 1)).take (be - (use + 1)) ++ t.ws.drop en))) := by
  obtain ⟨F, x, b, a, pre, post, o1, o2, b1, b2, bp, bq, C, e, l, q1, q2, eb, es, st⟩ := redex_at hg h
  have lb : b.sz = bp.length + (bq.length + 1) := by rw [← ws_len, eb]; simp
  have la : a.ws.length = a.sz := ws_len a
  have w0 : t.ws = pre ++ (Tk.g :: Tk.t x :: (bp ++ Tk.u x :: bq) ++ (a.ws ++ post)) := by
    rw [← e, C.ws]
    simp [T.ws, eb]
  have w1 : t.ws = pre ++ ([Tk.g, Tk.t x] ++ (bp ++ ([Tk.u x] ++ (bq ++ (a.ws ++ post))))) := by rw [w0]; simp
  have wl : t.ws.length = p + 2 + b.sz + a.sz + post.length := by
    rw [w1]
    simp only [List.length_append, List.length_cons, List.length_nil]
    omega
  have d0 : t.ws.take p = pre := by rw [w1, ← l, List.take_left]
  have d1 : t.ws.drop (p + 2) = bp ++ ([Tk.u x] ++ (bq ++ (a.ws ++ post))) := by
    have : t.ws = (pre ++ [Tk.g, Tk.t x]) ++ (bp ++ ([Tk.u x] ++ (bq ++ (a.ws ++ post)))) := by rw [w1]; simp
    rw [this, List.drop_left' (by simp [l])]
  have d2 : t.ws.drop (p + 2 + bp.length + 1) = bq ++ (a.ws ++ post) := by
    have : t.ws = (pre ++ ([Tk.g, Tk.t x] ++ (bp ++ [Tk.u x]))) ++ (bq ++ (a.ws ++ post)) := by rw [w1]; simp
    rw [this, List.drop_left' (by simp [l]; omega)]
  have d3 : t.ws.drop (p + 2 + b.sz) = a.ws ++ post := by
    have : t.ws = (pre ++ ([Tk.g, Tk.t x] ++ (bp ++ ([Tk.u x] ++ bq)))) ++ (a.ws ++ post) := by rw [w1]; simp
    rw [this, List.drop_left' (by simp [l, lb]; omega)]
  have d4 : t.ws.drop (p + (b.sz + a.sz + 2)) = post := by
    have : t.ws = (pre ++ ([Tk.g, Tk.t x] ++ (bp ++ ([Tk.u x] ++ (bq ++ a.ws))))) ++ post := by rw [w1]; simp
    rw [this, List.drop_left' (by simp [l, lb, la]; omega)]
  refine ⟨_, x, p + 2 + bp.length, p + 2 + b.sz, p + (b.sz + a.sz + 2), st, ?_, ?_, q1, q2, by omega, by omega, by omega, by omega, ?_⟩
  · rw [w1, List.getElem?_append_right (by omega), l]
    simp
  · rw [w1, List.getElem?_append_right (by omega), l, List.getElem?_append_right (by simp; omega)]
    simp only [List.length_cons, List.length_nil]
    rw [show p + 2 + bp.length - p - (0 + 1 + 1) = bp.length by omega, List.getElem?_append_right (Nat.le_refl _), Nat.sub_self]
    rfl
  · rw [d0, d1, d2, d3, d4, C.ws, es]
    have z1 : (bp ++ ([Tk.u x] ++ (bq ++ (a.ws ++ post)))).take (p + 2 + bp.length - (p + 2)) = bp := by
      rw [show p + 2 + bp.length - (p + 2) = bp.length by omega, List.take_left]
    have z2 : (a.ws ++ post).take (p + (b.sz + a.sz + 2) - (p + 2 + b.sz)) = a.ws := by
      rw [show p + (b.sz + a.sz + 2) - (p + 2 + b.sz) = a.ws.length by omega, List.take_left]
    have z3 : (bq ++ (a.ws ++ post)).take (p + 2 + b.sz - (p + 2 + bp.length + 1)) = bq := by
      rw [show p + 2 + b.sz - (p + 2 + bp.length + 1) = bq.length by omega, List.take_left]
    rw [z1, z2, z3]
    simp
/-! ### a rest by its words -/
theorem step_redex {t t' : T α} (s : Step t t') : ∃ p, redex t.ws p := by
  induction s with
  | beta x b a => exact ⟨0, rfl, x, rfl⟩
  | lam x s ih =>
    obtain ⟨p, h1, y, h2⟩ := ih
    exact ⟨p + 1, h1, y, h2⟩
  | fn a s ih =>
    obtain ⟨p, h1, y, h2⟩ := ih
    refine ⟨p + 1, ?_, y, ?_⟩
    · show (_ ++ a.ws)[p]? = _
      rw [List.getElem?_append_left (List.getElem?_eq_some_iff.mp h1).1]
      exact h1
    · show (_ ++ a.ws)[p + 1]? = _
      rw [List.getElem?_append_left (List.getElem?_eq_some_iff.mp h2).1]
      exact h2
  | arg f s ih =>
    obtain ⟨p, h1, y, h2⟩ := ih
    refine ⟨f.ws.length + p + 1, ?_, y, ?_⟩
    · show (f.ws ++ _)[f.ws.length + p]? = _
      rw [List.getElem?_append_right (Nat.le_add_right _ _), Nat.add_sub_cancel_left]
      exact h1
    · show (f.ws ++ _)[f.ws.length + p + 1]? = _
      rw [Nat.add_assoc, List.getElem?_append_right (Nat.le_add_right _ _), Nat.add_sub_cancel_left]
      exact h2
theorem redex_step {t : T α} {p : Nat} (h : redex t.ws p) : ∃ t', Step t t' := by
  obtain ⟨h1, x, h2⟩ := h
  obtain ⟨F, s, pre, post, o1, o2, b1, b2, C, e, l, q⟩ := ctx_at t p 0 (by rw [← ws_len]; exact (List.getElem?_eq_some_iff.mp h1).1)
  subst e
  have c0 := C.at s 0 (sz_pos s)
  rw [Nat.add_zero, l, h1] at c0
  cases s with
  | var y => simp [T.ws] at c0
  | lam y b => simp [T.ws] at c0
  | app f a =>
    have c1 := C.at (.app f a) 1 (by have := sz_pos f; simp only [T.sz]; omega)
    rw [l, h2] at c1
    have c1' : some (Tk.t x) = (f.ws ++ a.ws)[0]? := c1
    cases f with
    | var y => simp [T.ws] at c1'
    | app f g => simp [T.ws] at c1'
    | lam y b => exact ⟨_, C.step (.beta y b a)⟩
theorem normal_iff {t : T α} : Normal t ↔ ∀ p, ¬ redex t.ws p := by
  constructor
  · intro h p r
    obtain ⟨t', s⟩ := redex_step r
    exact h t' s
  · intro h t' s
    obtain ⟨p, r⟩ := step_redex s
    exact h p r
/-- each good program has a rest -/
theorem rest_ex : ∀ (n : Nat) (t : T α), t.sz ≤ n → Good t → ∃ r, Rest t r
  | 0, t, h, _ => absurd (sz_pos t) (by omega)
  | n + 1, t, h, hg => by
    by_cases q : ∃ t', Step t t'
    · obtain ⟨t', s⟩ := q
      obtain ⟨_, _, _, _, _, _, z⟩ := step_names s hg
      obtain ⟨r, hr⟩ := rest_ex n t' (by omega) (hg.step s)
      exact ⟨r, hr.of_star (.one s)⟩
    · exact ⟨t, .refl t, fun t' s => q ⟨t', s⟩⟩
open Classical in
noncomputable def nf (t : T α) : T α := if h : ∃ r, Rest t r then Classical.choose h else t
theorem nf_rest {t : T α} (h : Good t) : Rest t (nf t) := by
  have q := rest_ex t.sz t (Nat.le_refl _) h
  unfold nf
  rw [dif_pos q]
  exact Classical.choose_spec q
theorem nf_eq {t r : T α} (h : Good t) (q : Rest t r) : nf t = r := (nf_rest h).uniq h q
theorem nf_good {t : T α} (h : Good t) : Good (nf t) := (nf_rest h).st.good h
theorem nf_step {t t' : T α} (h : Good t) (s : Step t t') : nf t' = nf t := ((nf_eq h ((nf_rest (h.step s)).of_star (.one s)))).symm
theorem nf_normal {t : T α} (h : Good t) (q : Normal t) : nf t = t := nf_eq h ⟨.refl t, q⟩
theorem nf_lam {x : α} {t : T α} (h : Good (.lam x t)) : nf (.lam x t) = .lam x (nf t) := nf_eq h ((nf_rest h.lam).lam x)
/-- a part may be a rest already -/
theorem Ctx.put {F : T α → T α} {pre post : List (Tk α)} {o1 o2 b1 b2 : List α} (C : Ctx F pre post o1 o2 b1 b2) {s : T α} (h : Good (F s)) : Good (F (nf s)) ∧ nf (F (nf s)) = nf (F s) := by
  have hs := C.good h
  have st := C.star (nf_rest hs).st
  have hg := st.good h
  exact ⟨hg, (nf_eq h ((nf_rest hg).of_star st)).symm⟩
theorem nf_sub {x : α} {t a : T α} (ht : Good t) (ha : Good a) (hx : x ∈ t.occ) (hb : x ∉ t.bnd) (d1 : ∀ y ∈ t.occ, y ≠ x → y ∉ a.occ) (d2 : ∀ y ∈ t.bnd, y ∉ a.bnd) (d3 : ∀ y ∈ t.bnd, y ∉ a.occ) :
    x ∈ (nf t).occ ∧ x ∉ (nf t).bnd ∧ Good ((nf t).sub x (nf a)) ∧ nf ((nf t).sub x (nf a)) = nf (t.sub x a) := by
  have r1 := nf_rest ht
  have r2 := nf_rest ha
  have n1 := star_names r1.st ht
  have n2 := star_names r2.st ha
  have hx' := n1.2.2.1 x hx hb
  have hb' : x ∉ (nf t).bnd := fun z => hb (n1.2.1 x z)
  have g : Good ((nf t).sub x (nf a)) := good_sub (nf_good ht) (nf_good ha) hx' hb' (fun y hy hn z => d1 y (n1.1 y hy) hn (n2.1 y z)) fun y hy z => d2 y (n1.2.1 y hy) (n2.2.1 y z)
  exact ⟨hx', hb', g, (nf_eq (good_sub ht ha hx hb d1 d2) (Rest.sub ht hx hb d3 r1 r2 (nf_rest g))).symm⟩
end
end Tm
/-! Forests, the reckoning of the ends, where a name stands, other names. -/
namespace Tm
section
variable {α : Type} [DecidableEq α]
/-- the words of several programs, one behind another -/
def fw : List (T α) → List (Tk α)
  | [] => []
  | t :: r => t.ws ++ fw r
theorem fw_drop : ∀ (n p : Nat) (ts : List (T α)), (fw ts).length ≤ n → p ≤ (fw ts).length → ∃ us, (fw ts).drop p = fw us
  | n, 0, ts, _, _ => ⟨ts, by simp⟩
  | 0, p + 1, ts, h, hp => by omega
  | n + 1, p + 1, [], h, hp => by simp [fw] at hp
  | n + 1, p + 1, .var x :: r, h, hp => by
    simp only [fw, T.ws, List.cons_append, List.nil_append, List.length_cons] at h hp
    obtain ⟨us, e⟩ := fw_drop n p r (by omega) (by omega)
    exact ⟨us, by simpa [fw, T.ws] using e⟩
  | n + 1, p + 1, .lam x b :: r, h, hp => by
    simp only [fw, T.ws, List.cons_append, List.length_cons] at h hp
    obtain ⟨us, e⟩ := fw_drop n p (b :: r) (by simp only [fw]; omega) (by simp only [fw]; omega)
    exact ⟨us, by simpa [fw, T.ws] using e⟩
  | n + 1, p + 1, .app f a :: r, h, hp => by
    simp only [fw, T.ws, List.cons_append, List.length_cons, List.append_assoc] at h hp
    obtain ⟨us, e⟩ := fw_drop n p (f :: a :: r) (by simp only [fw]; omega) (by simp only [fw]; omega)
    exact ⟨us, by simpa [fw, T.ws] using e⟩
theorem ws_fw (t : T α) : fw [t] = t.ws := by simp [fw]
/-- one word back: what stands at a place of a forest -/
theorem fw_cons {w : Tk α} {r : List (Tk α)} {us : List (T α)} (h : w :: r = fw us) :
    (∃ x ts, w = .u x ∧ us = .var x :: ts ∧ r = fw ts) ∨ (∃ x b ts, w = .t x ∧ us = .lam x b :: ts ∧ r = fw (b :: ts)) ∨ (∃ f a ts, w = .g ∧ us = .app f a :: ts ∧ r = fw (f :: a :: ts)) := by
  cases us with
  | nil => cases h
  | cons t ts =>
    cases t with
    | var x =>
      simp only [fw, T.ws, List.cons_append, List.nil_append, List.cons.injEq] at h
      exact .inl ⟨x, ts, h.1, rfl, h.2⟩
    | lam x b =>
      simp only [fw, T.ws, List.cons_append, List.cons.injEq] at h
      exact .inr (.inl ⟨x, b, ts, h.1, rfl, by simpa [fw] using h.2⟩)
    | app f a =>
      simp only [fw, T.ws, List.cons_append, List.cons.injEq, List.append_assoc] at h
      exact .inr (.inr ⟨f, a, ts, h.1, rfl, by simpa [fw] using h.2⟩)
theorem fw_inj : ∀ (us vs : List (T α)), fw us = fw vs → us = vs
  | [], [], _ => rfl
  | [], t :: r, h => by
    have := sz_pos t
    have l := congrArg List.length h
    simp only [fw, List.length_nil, List.length_append, ws_len] at l
    omega
  | t :: r, [], h => by
    have := sz_pos t
    have l := congrArg List.length h
    simp only [fw, List.length_nil, List.length_append, ws_len] at l
    omega
  | t :: r, u :: v, h => by
    obtain ⟨e1, e2⟩ := ws_inj t u h
    rw [e1, fw_inj r v e2]
/-- the ends of a forest's places, counted from k; the ends of its programs -/
def fe : List (T α) → Nat → List Nat
  | [], _ => []
  | t :: r, k => t.ends k ++ fe r (k + t.sz)
def fs : List (T α) → Nat → List Nat
  | [], _ => []
  | t :: r, k => (k + t.sz) :: fs r (k + t.sz)
theorem fs_len : ∀ (ts : List (T α)) (k : Nat), (fs ts k).length = ts.length
  | [], _ => rfl
  | t :: r, k => by simp [fs, fs_len r]
/-- one word more at the front: the end at its place, the ends of the programs -/
theorem fe_var (x : α) (ts : List (T α)) (k : Nat) : fe (.var x :: ts) k = (k + 1) :: fe ts (k + 1) ∧ fs (.var x :: ts) k = (k + 1) :: fs ts (k + 1) := ⟨rfl, rfl⟩
theorem fe_lam (x : α) (b : T α) (ts : List (T α)) (k : Nat) : ∃ e r, fs (b :: ts) (k + 1) = e :: r ∧ fe (.lam x b :: ts) k = e :: fe (b :: ts) (k + 1) ∧ fs (.lam x b :: ts) k = e :: r := by
  refine ⟨k + 1 + b.sz, fs ts (k + 1 + b.sz), rfl, ?_, ?_⟩
  · simp only [fe, T.ends, T.sz, List.cons_append]
    rw [show k + (b.sz + 1) = k + 1 + b.sz by omega]
  · simp only [fs, T.sz]
    rw [show k + (b.sz + 1) = k + 1 + b.sz by omega]
theorem fe_app (f a : T α) (ts : List (T α)) (k : Nat) : ∃ d e r, fs (f :: a :: ts) (k + 1) = d :: e :: r ∧ fe (.app f a :: ts) k = e :: fe (f :: a :: ts) (k + 1) ∧ fs (.app f a :: ts) k = e :: r := by
  refine ⟨k + 1 + f.sz, k + 1 + f.sz + a.sz, fs ts (k + 1 + f.sz + a.sz), rfl, ?_, ?_⟩
  · simp only [fe, T.ends, T.sz, List.cons_append, List.append_assoc]
    rw [show k + (f.sz + a.sz + 1) = k + 1 + f.sz + a.sz by omega]
  · simp only [fs, T.sz]
    rw [show k + (f.sz + a.sz + 1) = k + 1 + f.sz + a.sz by omega]
theorem fe_one (t : T α) : fe [t] 0 = t.ends 0 := by simp [fe]
/-! ### names -/
theorem occ_ws : ∀ t : T α, t.ws.filterMap isU = t.occ
  | .var _ => rfl
  | .app f a => by simp [T.ws, T.occ, List.filterMap_cons, isU, occ_ws f, occ_ws a]
  | .lam _ b => by simp [T.ws, T.occ, List.filterMap_cons, isU, occ_ws b]
theorem mem_occ {t : T α} {x : α} : x ∈ t.occ ↔ Tk.u x ∈ t.ws := by
  rw [← occ_ws, List.mem_filterMap]
  constructor
  · rintro ⟨w, h, e⟩
    cases w with
    | u y =>
      have : y = x := by simpa [isU] using e
      exact this ▸ h
    | _ => simp [isU] at e
  · exact fun h => ⟨_, h, rfl⟩
theorem mem_bnd {t : T α} {x : α} : x ∈ t.bnd ↔ Tk.t x ∈ t.ws := by
  rw [← bnd_ws, List.mem_filterMap]
  constructor
  · rintro ⟨w, h, e⟩
    cases w with
    | t y =>
      have : y = x := by simpa [isT] using e
      exact this ▸ h
    | _ => simp [isT] at e
  · exact fun h => ⟨_, h, rfl⟩
/-- a word that is a name or a take stands once -/
theorem once_of {ws : List (Tk α)} (h1 : (ws.filterMap isU).Nodup) (h2 : (ws.filterMap isT).Nodup) : ∀ (i j : Nat) (w : Tk α), w ≠ .g → ws[i]? = some w → ws[j]? = some w → i = j := by
  induction ws with
  | nil => intro i j w _ h; simp at h
  | cons v r ih =>
    have key : ∀ w : Tk α, w ≠ .g → v = w → w ∉ r := by
      intro w hw e hm
      subst e
      cases v with
      | g => exact hw rfl
      | t x =>
        have : (x :: r.filterMap isT).Nodup := h2
        exact (List.nodup_cons.mp this).1 (List.mem_filterMap.mpr ⟨_, hm, rfl⟩)
      | u x =>
        have : (x :: r.filterMap isU).Nodup := h1
        exact (List.nodup_cons.mp this).1 (List.mem_filterMap.mpr ⟨_, hm, rfl⟩)
    have g1 : (r.filterMap isU).Nodup := by
      cases v with
      | u x => exact (List.nodup_cons.mp (show (x :: r.filterMap isU).Nodup from h1)).2
      | _ => exact h1
    have g2 : (r.filterMap isT).Nodup := by
      cases v with
      | t x => exact (List.nodup_cons.mp (show (x :: r.filterMap isT).Nodup from h2)).2
      | _ => exact h2
    intro i j w hw hi hj
    cases i with
    | zero =>
      cases j with
      | zero => rfl
      | succ j =>
        have e : v = w := by simpa using hi
        have hj' : r[j]? = some w := by simpa using hj
        exact absurd (List.mem_of_getElem? hj') (key w hw e)
    | succ i =>
      cases j with
      | zero =>
        have e : v = w := by simpa using hj
        have hi' : r[i]? = some w := by simpa using hi
        exact absurd (List.mem_of_getElem? hi') (key w hw e)
      | succ j => rw [ih g1 g2 i j w hw (by simpa using hi) (by simpa using hj)]
theorem Good.once {t : T α} (h : Good t) {i j : Nat} {w : Tk α} (hw : w ≠ .g) (hi : t.ws[i]? = some w) (hj : t.ws[j]? = some w) : i = j :=
  once_of (by rw [occ_ws]; exact h.no) (by rw [bnd_ws]; exact h.nb) i j w hw hi hj
/-- each take's name stands in its body -/
theorem take_in {t : T α} (h : t.ok) {p : Nat} {x : α} (hp : t.ws[p]? = some (.t x)) : ∃ q e, t.ws[q]? = some (.u x) ∧ (t.ends 0)[p]? = some e ∧ p < q ∧ q < e := by
  obtain ⟨F, s, pre, post, o1, o2, b1, b2, C, e, l, q⟩ := ctx_at t p 0 (by rw [← ws_len]; exact (List.getElem?_eq_some_iff.mp hp).1)
  subst e
  have c0 := C.at s 0 (sz_pos s)
  rw [Nat.add_zero, l, hp] at c0
  have hs := C.ok1 h
  cases s with
  | var y => simp [T.ws] at c0
  | app f a => simp [T.ws] at c0
  | lam y b =>
    have e : x = y := by simpa [T.ws] using c0
    subst e
    obtain ⟨i, hi, hx⟩ := List.getElem_of_mem (mem_occ.mp hs.1)
    have hi' : i < b.sz := by rw [← ws_len]; exact hi
    refine ⟨p + (i + 1), _, ?_, q, by omega, by simp only [T.sz]; omega⟩
    rw [← l, C.at (.lam x b) (i + 1) (by simp only [T.sz]; omega)]
    show b.ws[i]? = _
    rw [List.getElem?_eq_getElem hi, hx]
/-! ### other names -/
def Tk.ren (f : α → α) : Tk α → Tk α
  | .g => .g
  | .t x => .t (f x)
  | .u x => .u (f x)
def T.ren (f : α → α) : T α → T α
  | .var x => .var (f x)
  | .app g a => .app (g.ren f) (a.ren f)
  | .lam x b => .lam (f x) (b.ren f)
section
variable {f : α → α}
theorem ren_ws : ∀ t : T α, (t.ren f).ws = t.ws.map (Tk.ren f)
  | .var _ => rfl
  | .app g a => by simp [T.ren, T.ws, Tk.ren, ren_ws g, ren_ws a]
  | .lam _ b => by simp [T.ren, T.ws, Tk.ren, ren_ws b]
theorem ren_occ : ∀ t : T α, (t.ren f).occ = t.occ.map f
  | .var _ => rfl
  | .app g a => by simp [T.ren, T.occ, ren_occ g, ren_occ a]
  | .lam _ b => by simp [T.ren, T.occ, ren_occ b]
theorem ren_bnd : ∀ t : T α, (t.ren f).bnd = t.bnd.map f
  | .var _ => rfl
  | .app g a => by simp [T.ren, T.bnd, ren_bnd g, ren_bnd a]
  | .lam _ b => by simp [T.ren, T.bnd, ren_bnd b]
theorem ren_gv : ∀ t : T α, (t.ren f).gv = t.gv
  | .var _ => rfl
  | .app g a => by simp [T.ren, T.gv, ren_gv g, ren_gv a]
  | .lam _ b => by simp [T.ren, T.gv, ren_gv b]
theorem ren_sz : ∀ t : T α, (t.ren f).sz = t.sz
  | .var _ => rfl
  | .app g a => by simp [T.ren, T.sz, ren_sz g, ren_sz a]
  | .lam _ b => by simp [T.ren, T.sz, ren_sz b]
theorem ren_ok : ∀ t : T α, t.ok → (t.ren f).ok
  | .var _, _ => trivial
  | .app g a, h => ⟨ren_ok g h.1, ren_ok a h.2⟩
  | .lam x b, h => ⟨by rw [ren_occ]; exact List.mem_map_of_mem h.1, ren_ok b h.2⟩
theorem ren_sub {x : α} {a : T α} : ∀ b : T α, (∀ y ∈ b.occ, f y = f x → y = x) → (b.sub x a).ren f = (b.ren f).sub (f x) (a.ren f)
  | .var y, h => by
    by_cases e : y = x
    · subst e
      simp [T.sub, T.ren]
    · have : f y ≠ f x := fun q => e (h y (by simp [T.occ]) q)
      simp [T.sub, T.ren, e, this]
  | .app g c, h => by
    simp only [T.sub, T.ren]
    rw [ren_sub g fun y hy => h y (by simp [T.occ, hy]), ren_sub c fun y hy => h y (by simp [T.occ, hy])]
  | .lam y b, h => by
    simp only [T.sub, T.ren]
    rw [ren_sub b h]
/-- unlike names stay unlike -/
def InjOn (f : α → α) (l : List α) : Prop := ∀ x ∈ l, ∀ y ∈ l, f x = f y → x = y
theorem ren_step {t t' : T α} (s : Step t t') : Good t → InjOn f t.occ → Step (t.ren f) (t'.ren f) := by
  induction s with
  | beta x b a =>
    intro h hi
    rw [ren_sub b fun y hy e => hi y (by simp [T.occ, hy]) x (by simp [T.occ, h.ok.1.1]) e]
    exact .beta (f x) (b.ren f) (a.ren f)
  | lam x s ih => exact fun h hi => .lam (f x) (ih h.lam hi)
  | fn a s ih => exact fun h hi => .fn (a.ren f) (ih h.fn fun x hx y hy => hi x (by simp [T.occ, hx]) y (by simp [T.occ, hy]))
  | arg g s ih => exact fun h hi => .arg (g.ren f) (ih h.arg fun x hx y hy => hi x (by simp [T.occ, hx]) y (by simp [T.occ, hy]))
theorem ren_star {t t' : T α} (s : Star t t') : Good t → InjOn f t.occ → Star (t.ren f) (t'.ren f) := by
  induction s with
  | refl _ => exact fun _ _ => .refl _
  | head s _ ih =>
    intro h hi
    obtain ⟨x, _, p1, _⟩ := step_names s h
    exact .head (ren_step s h hi) (ih (h.step s) fun y hy z hz => hi y (p1.subset (List.mem_cons_of_mem _ hy)) z (p1.subset (List.mem_cons_of_mem _ hz)))
theorem nodup_map_on {l : List α} : l.Nodup → InjOn f l → (l.map f).Nodup := by
  induction l with
  | nil => exact fun _ _ => List.nodup_nil
  | cons a r ih =>
    intro h hi
    obtain ⟨h1, h2⟩ := List.nodup_cons.mp h
    rw [List.map_cons, List.nodup_cons]
    refine ⟨fun q => ?_, ih h2 fun x hx y hy => hi x (List.mem_cons_of_mem _ hx) y (List.mem_cons_of_mem _ hy)⟩
    obtain ⟨b, hb, e⟩ := List.mem_map.mp q
    exact h1 (hi b (List.mem_cons_of_mem _ hb) a List.mem_cons_self e ▸ hb)
theorem ren_good {t : T α} (h : Good t) (hi : InjOn f t.occ) : Good (t.ren f) := by
  refine ⟨ren_ok t h.ok, ?_, ?_⟩
  · rw [ren_occ]
    exact nodup_map_on h.no hi
  · rw [ren_bnd]
    exact nodup_map_on h.nb fun x hx y hy => hi x (bnd_occ h.ok hx) y (bnd_occ h.ok hy)
theorem ren_normal {t : T α} (h : Normal t) : Normal (t.ren f) := by
  rw [normal_iff] at h ⊢
  rintro p ⟨h1, x, h2⟩
  refine h p ⟨?_, ?_⟩
  · rw [ren_ws, List.getElem?_map] at h1
    cases e : t.ws[p]? with
    | none => rw [e] at h1; cases h1
    | some w =>
      rw [e] at h1
      cases w with
      | g => rfl
      | _ => simp [Tk.ren] at h1
  · rw [ren_ws, List.getElem?_map] at h2
    cases e : t.ws[p + 1]? with
    | none => rw [e] at h2; cases h2
    | some w =>
      rw [e] at h2
      cases w with
      | t y => exact ⟨y, rfl⟩
      | _ => simp [Tk.ren] at h2
theorem nf_ren {t : T α} (h : Good t) (hi : InjOn f t.occ) : nf (t.ren f) = (nf t).ren f :=
  nf_eq (ren_good h hi) ⟨ren_star (nf_rest h).st h hi, ren_normal (nf_rest h).nm⟩
end
end
end Tm
/-! Growing: a take and its only use put in. -/
namespace Tm
section
variable {α : Type} [DecidableEq α]
/-- t' is t with a take of z and its use put in -/
structure Put (t t' : T α) (z : α) : Prop where
  ok : t'.ok
  occ : t'.occ.Perm (z :: t.occ)
  bnd : t'.bnd.Perm (z :: t.bnd)
  sz : t'.sz = t.sz + 3
theorem Put.good {t t' : T α} {z : α} (h : Put t t' z) (g : Good t) (h1 : z ∉ t.occ) (h2 : z ∉ t.bnd) : Good t' :=
  ⟨h.ok, h.occ.nodup_iff.mpr (List.nodup_cons.mpr ⟨h1, g.no⟩), h.bnd.nodup_iff.mpr (List.nodup_cons.mpr ⟨h2, g.nb⟩)⟩
theorem put_whole {F : T α → T α} {pre post : List (Tk α)} {o1 o2 b1 b2 : List α} (C : Ctx F pre post o1 o2 b1 b2) {s : T α} (hk : (F s).ok) (z : α) :
    Put (F s) (F (.app (.lam z (.var z)) s)) z ∧ (F (.app (.lam z (.var z)) s)).ws = pre ++ ([.g, .t z, .u z] ++ (s.ws ++ post)) := by
  have w : (F (.app (.lam z (.var z)) s)).ws = pre ++ ([.g, .t z, .u z] ++ (s.ws ++ post)) := by rw [C.ws]; simp [T.ws]
  refine ⟨⟨C.ok2 hk ⟨⟨List.mem_singleton.mpr rfl, trivial⟩, C.ok1 hk⟩ (fun x _ hx => List.mem_append_right _ hx), ?_, ?_, ?_⟩, w⟩
  · rw [C.occ, C.occ]
    refine List.perm_iff_count.mpr fun x => ?_
    simp only [T.occ, List.count_append, List.count_cons, List.count_nil]
    omega
  · rw [C.bnd, C.bnd]
    refine List.perm_iff_count.mpr fun x => ?_
    simp only [T.bnd, List.count_append, List.count_cons, List.count_nil]
    omega
  · rw [← ws_len, ← ws_len, w, C.ws]
    simp only [List.length_append, List.length_cons, List.length_nil]
    omega
theorem put_part {F G : T α → T α} {pre post pre2 post2 : List (Tk α)} {o1 o2 b1 b2 p1 p2 c1 c2 : List α} (C : Ctx F pre post o1 o2 b1 b2) (D : Ctx G pre2 post2 p1 p2 c1 c2) {u : T α} (hk : (F (G u)).ok) (z : α) (hf : ∀ x ∈ pre2.filterMap isT, x ∉ u.occ) :
    Put (F (G u)) (F (.app (.lam z (G (.var z))) u)) z ∧ (F (.app (.lam z (G (.var z))) u)).ws = pre ++ ([.g, .t z] ++ (pre2 ++ ([.u z] ++ (post2 ++ (u.ws ++ post))))) := by
  have w : (F (.app (.lam z (G (.var z))) u)).ws = pre ++ ([.g, .t z] ++ (pre2 ++ ([.u z] ++ (post2 ++ (u.ws ++ post))))) := by rw [C.ws]; simp [T.ws, D.ws]
  have k1 := C.ok1 hk
  have k2 := D.ok1 k1
  refine ⟨⟨C.ok2 hk ⟨⟨?_, D.ok2 k1 trivial fun x hx hu => ?_⟩, k2⟩ (fun x _ hx => ?_), ?_, ?_, ?_⟩, w⟩
  · rw [D.occ]
    exact List.mem_append_right _ (List.mem_append_left _ (List.mem_singleton.mpr rfl))
  · rw [D.bt] at hx
    exact absurd hu (hf x hx)
  · rw [D.occ] at hx
    show x ∈ (G (.var z)).occ ++ u.occ
    rw [D.occ]
    rcases List.mem_append.mp hx with h | h
    · exact List.mem_append_left _ (List.mem_append_left _ h)
    · rcases List.mem_append.mp h with h | h
      · exact List.mem_append_right _ h
      · exact List.mem_append_left _ (List.mem_append_right _ (List.mem_append_right _ h))
  · rw [C.occ, C.occ]
    refine List.perm_iff_count.mpr fun x => ?_
    simp only [T.occ, D.occ, List.count_append, List.count_cons, List.count_nil]
    omega
  · rw [C.bnd, C.bnd]
    refine List.perm_iff_count.mpr fun x => ?_
    simp only [T.bnd, D.bnd, List.count_append, List.count_cons, List.count_nil]
    omega
  · rw [← ws_len, ← ws_len, w, C.ws, D.ws]
    simp only [List.length_append, List.length_cons, List.length_nil]
    omega
/-- t0 grown by some puts of names zs -/
structure Grown (t0 t : T α) (zs : List α) : Prop where
  g : Good t
  occ : t.occ.Perm (zs ++ t0.occ)
  bnd : t.bnd.Perm (zs ++ t0.bnd)
  sz : t.sz = t0.sz + 3 * zs.length
theorem Grown.start {t0 : T α} (h : Good t0) : Grown t0 t0 [] := ⟨h, .refl _, .refl _, rfl⟩
theorem Grown.put {t0 t t' : T α} {zs : List α} {z : α} (h : Grown t0 t zs) (p : Put t t' z) (h1 : z ∉ zs) (h2 : z ∉ t0.occ) (h3 : z ∉ t0.bnd) : Grown t0 t' (z :: zs) := by
  refine ⟨p.good h.g (fun q => ?_) (fun q => ?_), p.occ.trans (h.occ.cons z), p.bnd.trans (h.bnd.cons z), ?_⟩
  · rcases List.mem_append.mp (h.occ.subset q) with q | q
    · exact h1 q
    · exact h2 q
  · rcases List.mem_append.mp (h.bnd.subset q) with q | q
    · exact h1 q
    · exact h3 q
  · rw [p.sz, h.sz, List.length_cons]
    omega
end
end Tm
set_option maxRecDepth 100000
set_option maxHeartbeats 4000000
/-! Rules of our own: enumerate over a tuple; sums and slices of tuples at any address; isinstance of a derived class. -/
namespace Ok
open PySem PySem.Spec PyProof.Rows L2 HT
open Sem (wp)
/-! ### enumerate(t), t a tuple -/
set_option maxHeartbeats 2000000 in
theorem enumB {v : Value} {o : Obj} {H : Heap → Prop} (B : Begins v o H) :
    Meets (Builtin.«enumerate.__new__» ⟨[.type "enumerate", v], []⟩) (fun _ R s => H s.heap ∧
      R (.ok (.ret (.ref (s.heap.push o).objs.size))) { s with heap := (s.heap.push o).push { cls := .type "enumerate", data := .fields #[.none, .bool false, .ref s.heap.objs.size, rawInt 0, .none, .none] } }) :=
  .of_wp fun prog w A R s h => by
    obtain ⟨hp, g, d, tk, os⟩ := s
    obtain ⟨h1, h⟩ := h
    have hsub := sub_enumerate
    have go : ∀ {A' : Around} {E : Value → Shared → Prop} {Q : Value → Shared → Prop}, Q (.ref hp.objs.size) ⟨hp.push o, g, d, tk, os⟩ → wpAny (model prog w) A' (pyIter v) Q E ⟨hp, g, d, tk, os⟩ :=
      fun q => B.iter prog w _ _ ⟨hp, g, d, tk, os⟩ _ h1 q
    wp_walk using go
    refine wpAny_stack_any fun st => wpAny_pure ?_
    split
    · rename_i c _ _ _ _ _
      cases (c == Value.type "enumerate") <;> (wp_walk using go; exact ⟨_, rfl, h⟩)
    · wp_walk using go
      exact ⟨_, rfl, h⟩
/-- the two new cells -/
theorem enum_of {prog : Program} {w : World} {A : Around} {E : Value → Shared → Prop} {s : Shared} {v : Value} {o : Obj} {H : Heap → Prop} {Q : Value → Shared → Prop} (B : Begins v o H) (h1 : H s.heap)
    (q : ∀ h', IsEnum h' (s.heap.objs.size + 1) s.heap.objs.size 0 .none → h'.get? s.heap.objs.size = some o → (∀ b ob, s.heap.get? b = some ob → h'.get? b = some ob) → Q (.ref (s.heap.objs.size + 1)) { s with heap := h' }) :
    wpAny (model prog w) A (call (.type "enumerate") [v]) Q E s := by
  refine callType_new F.called_enumerate (by decide) (F.typeCall_enumerate_1 _) (F.newCall_enumerate_1 _) (fun obj => F.args_object_init_2 obj _) F.entry_enumerate_new (enumB B) ⟨h1, ?_⟩
  have z : (s.heap.push o).objs.size = s.heap.objs.size + 1 := Heap.size_push ..
  have e := Heap.get?_push_size (s.heap.push o) (o := { cls := .type "enumerate", data := .fields #[.none, .bool false, .ref s.heap.objs.size, rawInt 0, .none, .none] }) rfl
  rw [z] at e
  show _ ∧ _
  rw [z]
  exact ⟨⟨_, e, rfl⟩, q _ e (Heap.get?_push_of_some _ (Heap.get?_push_size _ B.free)) fun b ob x => Heap.get?_push_of_some _ (Heap.get?_push_of_some _ x)⟩
/-- the tuple at a, each item in a new pair -/
def ItE (K : PySem.W.Frag) (a : Addr) : It :=
  ⟨fun i H => ∃ (xs : List V) (x : V), SqT K H a xs ∧ xs[i]? = some x, fun i H v H' => ∃ T x, v = .ref T ∧ H T = none ∧ H' = upd H T (.tup [.int (i : Nat), x]) ∧ ∀ xs, SqT K H a xs → xs[i]? = some x, fun i H => ∃ xs : List V, SqT K H a xs ∧ xs.length = i⟩
theorem turnE {P : Program} {w : World} {K : PySem.W.Frag} {elts : List Expr} {kk : Nat} {tpos : Pos} (a e it : Addr) :
    Turn P w K (.Tuple elts kk tpos) (ItE K a) [e, it] e (fun i h => (∃ old, IsEnum h e it ((i : Nat) : Int) old) ∧ h.IsTupleIter it a i ∧ e ≠ it) where
  mem := by simp
  obj := fun i h st b hb => by
    obtain ⟨⟨old, he⟩, ⟨o, ho, hc, hd⟩, _⟩ := st
    rcases (show b = e ∨ b = it by simpa using hb) with z | z
    · rw [z]
      exact ⟨_, he, fun v q => nomatch q⟩
    · rw [z]
      exact ⟨o, ho, fun v q => by rw [hd] at q; cases q⟩
  keep := fun i h h' st k => let ⟨⟨old, he⟩, hi, hne⟩ := st; ⟨⟨old, k e (by simp) _ he⟩, hi.at fun o q => k it (by simp) o q, hne⟩
  item := by
    intro X hP hw hK hc i pins s σ H E I hf st hg
    subst hP hw hK
    obtain ⟨⟨old, he⟩, hit, hne⟩ := st
    obtain ⟨xs, x, hq, hx⟩ := hg
    obtain ⟨its, rv, p, hz⟩ := I.tuple hq
    obtain ⟨u, hu, ru⟩ := rv.get hx
    have hel : e < s.heap.objs.size := Heap.lt_size he
    have hil : it < s.heap.objs.size := by
      obtain ⟨_, q, _⟩ := hit
      exact Heap.lt_size q
    have hT0 : s.heap.IsTuple a its.toArray := p
    have hai : a ≠ it := by
      rintro rfl
      obtain ⟨o1, g1, c1, _⟩ := hT0
      obtain ⟨o2, g2, c2, _⟩ := hit
      rw [g1] at g2
      cases g2
      rw [c1] at c2
      exact absurd c2 (by decide)
    have hae : a ≠ e := by
      rintro rfl
      obtain ⟨o1, g1, c1, _⟩ := hT0
      have g2 := he
      unfold IsEnum at g2
      rw [g1] at g2
      cases g2
      have c2 : Value.type "enumerate" = Value.type "tuple" := c1
      exact absurd c2 (by decide)
    have hi : i < its.toArray.size := by
      have := (List.getElem?_eq_some_iff.mp hu).1
      simpa using this
    have D := Draws.tuple (prog := X.prog) (w := X.w) (A := X.A.in1) (I.ok.hd hc) it a hai its.toArray
    refine wpAny_pyNext_enum_itemD D he ⟨hit, hT0⟩ hi hne (by simp [hne, Ne.symm hae]) fun y h' tk hy ho hst' hT hsz hk => ?_
    have ey : y = u := by
      have hu' : its.toArray[i]? = some u := by simpa using hu
      exact Option.some.inj (hy.symm.trans hu')
    subst ey
    refine ⟨_, rfl, wpAny_letOwnedTupleGo_enum (s := { s with heap := h', toks := tk + 1 }) ho fun h'' he' sb => ?_⟩
    have hT2 : h''.get? s.heap.objs.size = some { cls := .type "tuple", data := .seq #[.int i tk, y] } := (sb.2 _ (Nat.ne_of_gt hel)).trans hT
    have new : ObjOk X.prog X.w (upd H s.heap.objs.size (.tup [.int (i : Nat), x])) h'' s.heap.objs.size (.tup [.int (i : Nat), x]) :=
      ⟨by show 2 ≤ sizeLine; decide, [.int i tk, y], .cons ⟨_, rfl⟩ (.cons ru .nil), ⟨_, hT2, rfl, _, rfl⟩⟩
    have I1 : Inv X pins σ (upd H s.heap.objs.size (.tup [.int (i : Nat), x])) { s with heap := h'', toks := tk + 1 } :=
      I.turnedNew (ch := [e, it]) (fun b ob hb q => (sb.2 b (fun z => hb (by simp [z]))).trans (hk b ob (fun z => hb (by simp [z])) (fun z => hb (by simp [z])) q)) hf (Nat.le_refl _) new
    refine ⟨.ref s.heap.objs.size, _, I1, rfl, ⟨_, x, rfl, I.hok.fresh (Nat.le_refl _), rfl, fun ys hy => by rw [I.tuple_inj hy hq]; exact hx⟩, ⟨⟨y, ?_⟩, hst'.1.at fun o q => (sb.2 it (Ne.symm hne)).trans q, hne⟩, fun b hb => ?_⟩
    · rw [show ((i + 1 : Nat) : Int) = (i : Int) + 1 by omega]
      exact he'
    · have hb' : b < s.heap.objs.size := by
        rcases (show b = e ∨ b = it by simpa using hb) with z | z
        · rw [z]
          exact hel
        · rw [z]
          exact hil
      rw [upd_ne (Nat.ne_of_lt hb')]
      exact (hf b hb).1
  done := by
    intro X hP hw hK hc i pins s σ H E I hf st hg
    subst hP hw hK
    obtain ⟨⟨old, he⟩, hit, hne⟩ := st
    obtain ⟨xs, hq, hx⟩ := hg
    obtain ⟨its, rv, p, hz⟩ := I.tuple hq
    obtain ⟨f0, f1, f2, f3, f4, f5⟩ := hf it (by simp)
    have hl := rv.length
    have hT0 : s.heap.IsTuple a its.toArray := p
    have hai : a ≠ it := by
      rintro rfl
      obtain ⟨o1, g1, c1, _⟩ := hT0
      obtain ⟨o2, g2, c2, _⟩ := hit
      rw [g1] at g2
      cases g2
      rw [c1] at c2
      exact absurd c2 (by decide)
    have D := Draws.tuple (prog := X.prog) (w := X.w) (A := X.A.in1) (I.ok.hd hc) it a hai its.toArray
    have ei : i = its.toArray.size := by
      simp
      omega
    rw [ei] at he hit
    refine wpAny_pyNext_enum_endD D he ⟨hit, hT0⟩ fun h' eb => ⟨rfl, I.turned (t' := s.toks) (fun b o hb q => eb b o hb q) f0 f1 f3 f4 f5⟩
  self := fun A i s Q E st h => let ⟨⟨_, he⟩, _⟩ := st; wpAny_pyIter_enum he h
def iEnT (K : PySem.W.Frag) (ta : TA) : TI := fun σ H R => ta σ H fun vs H1 => ∃ a xs, vs = [.ref a] ∧ SqT K H1 a xs ∧ R (ItE K a) H1
theorem pi_enT {X : Cx} {e : Expr} {ta : TA} {p pos tpos : Pos} {elts : List Expr} {kk : Nat} (hg : Gl X "enumerate") (hm : X.mg "enumerate" = none) (ha : PA X [e] ta) (hs : starEach [e] X.env = [(false, eval e X.env)] := by rfl) :
    PI X (.Tuple elts kk tpos) (.Call (.Name "enumerate" p) [e] [] pos) (iEnT X.K ta) := by
  refine ⟨fun pins s σ H R I h => ?_⟩
  refine Call_ (ld_blt I hg hm boot_enumerate (PyProof.Rows.callWith_type1 (thn (ha.run pos pins s σ H _ I h) fun us s1 ⟨vs, H1, I1, r1, q1⟩ => ?_) hs rfl))
  obtain ⟨a, xs, ex, hq, q⟩ := q1
  subst ex
  cases r1 with
  | cons r rr =>
    cases rr
    cases r
    obtain ⟨its, rv, p', hz⟩ := I1.tuple hq
    refine enum_of (begins_tuple a its.toArray) (show s1.heap.IsTuple a its.toArray from p') fun h' he hit hk => wpAny_pyIter_enum he ?_
    have I2 : Inv X pins σ H1 { s1 with heap := h' } := I1.kept (t' := s1.toks) hk
    refine ⟨s1.heap.objs.size + 1, [s1.heap.objs.size + 1, s1.heap.objs.size], _, _, H1, rfl, I2, turnE a (s1.heap.objs.size + 1) s1.heap.objs.size, ⟨⟨.none, he⟩, ⟨_, hit, rfl, rfl⟩, Nat.succ_ne_self _⟩, fun b hb => ?_, q⟩
    have hle : s1.heap.objs.size ≤ b := by
      rcases (show b = s1.heap.objs.size + 1 ∨ b = s1.heap.objs.size by simpa using hb) with z | z
      · rw [z]
        exact Nat.le_add_right _ _
      · rw [z]
        exact Nat.le_refl _
    exact I1.fpOk hle (I1.hok.fresh hle)
/-! ### sums and slices of tuples: at some address -/
section
variable {X : Cx}
def rCatS (K : PySem.W.Frag) : R2 := fun x y H Q => ∃ a b xs ys, x = .ref a ∧ y = .ref b ∧ SqT K H a xs ∧ SqT K H b ys ∧ xs.length + ys.length ≤ sizeLine ∧ ∀ p H', Same H H' → SqT K H' p (xs ++ ys) → Q (.ref p) H'
theorem same_new {H : Hp} {p : Addr} (h : H p = none) (o : HO) : Same H (upd H p o) := fun b u q => by
  rw [upd_ne (ne_of_none q h)]
  exact q
theorem op_catS : OpR X (binaryOp .Add) (rCatS X.K) := by
  intro pins s σ H x y v u Q I rx ry h
  obtain ⟨a, b, xs, ys, rfl, rfl, ha, hb, hz, q⟩ := h
  refine op_catA pins s σ H _ _ v u Q I rx ry ⟨a, b, xs, ys, rfl, rfl, ha, hb, hz, fun e => ?_, fun _ e => ?_, fun _ _ p hp => ?_⟩
  · exact q b H (Same.refl H) (by rw [e]; exact hb)
  · exact q a H (Same.refl H) (by rw [e, List.append_nil]; exact ha)
  · exact q p _ (same_new hp _) (.inl (.inl upd_same))
def rSlS' (K : PySem.W.Frag) : V → Option Int → Option Int → Hp → VK → Prop := fun x lo hi H Q => ∃ a xs, x = .ref a ∧ SqT K H a xs ∧ ∀ p H', Same H H' → SqT K H' p (cutV xs lo hi) → Q (.ref p) H'
theorem sl_tupS : SlR X (rSlS' X.K) := by
  intro pins s σ H x v vl vu lo hi sl Q I rx hs pl pu h
  obtain ⟨a, xs, rfl, hx, q⟩ := h
  refine sl_tupA pins s σ H _ v vl vu lo hi sl Q I rx hs pl pu ⟨a, xs, rfl, hx, fun e => ?_, fun _ p hp => ?_⟩
  · refine q a H (Same.refl H) ?_
    unfold cutV
    rw [e.1, e.2, List.drop_zero, Nat.sub_zero, List.take_length]
    exact hx
  · exact q p _ (same_new hp _) (.inl (.inl upd_same))
end
/-! ### tuples without a dict of their own -/
/-- the object at a is known, and has no dict -/
def Zd (H : Hp) (a : Addr) : Prop := ∃ (ob : Obj) (u : HO), H a = some (.frz ob u) ∧ ob.dict = none
theorem Zd.same {H H' : Hp} {a : Addr} (h : Zd H a) (s : Same H H') : Zd H' a := by
  obtain ⟨ob, u, h1, h2⟩ := h
  exact ⟨ob, u, s _ _ h1, h2⟩
section
variable {X : Cx}
def rCatZ (K : PySem.W.Frag) : R2 := fun x y H Q => ∃ a b xs ys, x = .ref a ∧ y = .ref b ∧ SqT K H a xs ∧ SqT K H b ys ∧ xs.length + ys.length ≤ sizeLine ∧ ∀ p H', Same H H' → SqT K H' p (xs ++ ys) → (Zd H a → Zd H b → Zd H' p) → Q (.ref p) H'
theorem op_catZ : OpR X (binaryOp .Add) (rCatZ X.K) := by
  intro pins s σ H x y v u Q I rx ry h
  obtain ⟨a, b, xs, ys, rfl, rfl, ha, hb, hz, q⟩ := h
  cases rx
  cases ry
  obtain ⟨its, r1, p1, _⟩ := I.tuple ha
  obtain ⟨its2, r2, p2, _⟩ := I.tuple hb
  by_cases hx : xs = []
  · subst hx
    cases r1
    exact cat_tup0 p1 p2 ⟨.ref b, H, I, rfl, q b H (Same.refl H) hb fun _ z => z⟩
  · refine HT.cat_tup p1 p2 (fun z => hx (r1.nil_iff.mp z)) (fun z => ⟨.ref a, H, I, rfl, q a H (Same.refl H) (by rw [r2.nil_iff.mp z, List.append_nil]; exact ha) fun z _ => z⟩) (fun z => ?_) (by rw [← r1.length, ← r2.length]; exact hz)
    have hf : H s.heap.objs.size = none := I.hok.fresh (Nat.le_refl _)
    refine ⟨.ref s.heap.objs.size, _, I.laid (t' := s.toks) (o := .frz _ (.tup (xs ++ ys))) (fun b ob q => Heap.get?_push_of_some _ q) (Nat.le_refl _) ⟨Heap.get?_push_size _ rfl, by rw [List.length_append]; exact hz, _, r1.append r2, IsTup.new _ _⟩, rfl, q _ _ (same_new hf _) (.inl (.inr ⟨_, upd_same⟩)) fun _ _ => ⟨_, _, upd_same, rfl⟩⟩
def rSlZ (K : PySem.W.Frag) : V → Option Int → Option Int → Hp → VK → Prop := fun x lo hi H Q => ∃ a xs, x = .ref a ∧ SqT K H a xs ∧ ∀ p H', Same H H' → SqT K H' p (cutV xs lo hi) → (Zd H a → Zd H' p) → Q (.ref p) H'
theorem sl_tupZ : SlR X (rSlZ X.K) := by
  intro pins s σ H x v vl vu lo hi sl Q I rx hs pl pu h
  obtain ⟨a, xs, rfl, hx, q⟩ := h
  cases rx
  obtain ⟨its, r, ht, hz⟩ := I.tuple hx
  have hlen : its.toArray.size = xs.length := by rw [List.size_toArray]; exact r.length.symm
  refine ⟨"tuple", _, PyProof.Rows.slot_tuple_getitem.lookup, ht.typeIs, ?_⟩
  by_cases hw : HT.sIx xs.length 0 lo = 0 ∧ HT.sIx xs.length xs.length hi = xs.length
  · refine getItem_tuple_whole ht hs pl pu (by rw [hlen]; exact hw) ⟨.ref a, H, I, rfl, q a H (Same.refl H) ?_ fun z => z⟩
    unfold cutV
    rw [hw.1, hw.2, List.drop_zero, Nat.sub_zero, List.take_length]
    exact hx
  · refine HT.getItem_tuple_cut ht hs pl pu (by rw [hlen]; exact hw) ?_ (by rw [hlen]; exact hz)
    rw [hlen]
    have hf : H s.heap.objs.size = none := I.hok.fresh (Nat.le_refl _)
    refine ⟨.ref s.heap.objs.size, _, I.laid (t' := s.toks) (o := .frz _ (.tup (cutV xs lo hi))) (fun b ob q => Heap.get?_push_of_some _ q) (Nat.le_refl _) ⟨Heap.get?_push_size _ rfl, Nat.le_trans (cutV_length xs lo hi) hz, _, (r.drop (HT.sIx xs.length 0 lo)).take (HT.sIx xs.length xs.length hi - HT.sIx xs.length 0 lo), IsTup.new _ _⟩, rfl, q _ _ (same_new hf _) (.inl (.inr ⟨_, upd_same⟩)) fun _ => ⟨_, _, upd_same, rfl⟩⟩
def tTupZ (t : TA) : TE := fun σ H Q => t σ H fun xs H1 => xs.length ≤ sizeLine ∧ ∀ p (ob : Obj), H1 p = none → ob.dict = none → Q (.ref p) (upd H1 p (.frz ob (.tup xs)))
theorem pe_tupZ {es : List Expr} {t : TA} {pos : Pos} {x1} (h : PA X es t) : PE X (.Tuple es x1 pos) (tTupZ t) := by
  refine ⟨fun pins s σ H Q I hq => ?_⟩
  refine wpAny_Tuple_spliced (thn (h.run pos pins s σ H _ I hq) fun us s1 ⟨xs, H1, I1, r, z, q⟩ => ⟨by rw [← r.length]; exact z, ?_⟩)
  have hf : H1 s1.heap.objs.size = none := I1.hok.fresh (Nat.le_refl _)
  refine ⟨.ref s1.heap.objs.size, upd H1 s1.heap.objs.size (.frz _ (.tup xs)), I1.laid (t' := s1.toks) (fun b u e => Heap.get?_push_of_some _ e) (Nat.le_refl _) ⟨Heap.get?_push_size _ rfl, z, us, r, ⟨_, Heap.get?_push_size _ rfl, rfl, _, rfl⟩⟩, rfl, q _ _ hf rfl⟩
/-- t.index(x) -/
def tTix (K : PySem.W.Frag) (to : TE) (t : TA) : TE := fun σ H Q => to σ H fun x H1 => (∃ p xs, x = .ref p ∧ SqT K H1 p xs ∧ Zd H1 p) ∧ t σ H1 fun xs H2 =>
  ∃ p, ∃ ys : List Str, ∃ z j, x = .ref p ∧ xs = [.str z] ∧ SqT K H2 p (ys.map V.str) ∧ ys[j]? = some z ∧ (∀ m, m < j → ys[m]? ≠ some z) ∧ Q (.int (j : Nat)) H2
theorem pe_tix {o e : Expr} {es : List Expr} {to : TE} {t : TA} {apos cpos : Pos} (ho : PE X o to) (ha : PA X (e :: es) t)
    (hbase : attributeBase o "index" X.env (eval o X.env) = eval o X.env := by rfl)
    (hfew : ((backTo cpos (starEach (e :: es) X.env)).all (fun x => !x.1) && (backToKw cpos (keywordEach [] X.env)).all (fun x => x.1.isSome)
      && decide ((e :: es).length + ([] : List Keyword).length + (if ([] : List Keyword).isEmpty then 0 else 1) < 30)) = true := by rfl)
    (hline : (apos.endLine == cpos.line) = true := by rfl) (hs : starEach (e :: es) X.env = (false, eval e X.env) :: starEach es X.env := by rfl) (hplain : (backTo cpos (starEach es X.env)).any (·.1) = false := by rfl) :
    PE X (.Call (.Attribute o "index" apos) (e :: es) [] cpos) (tTix X.K to t) := by
  refine ⟨fun pins s σ H Q I h => ?_⟩
  refine wpAny_Call_method_late hbase hfew hline rfl (thn (ho.run pins s σ H _ I h) fun v s1 ⟨x, H1, I1, r1, ty, q1⟩ => ?_)
  obtain ⟨p, ws, rfl, hw, ob, u, hz, hd⟩ := ty
  cases r1
  obtain ⟨its, _, pl, _⟩ := I1.tuple hw
  refine ⟨"tuple", "tuple.index", PySem.F.plainAttrs_tuple, PySem.F.slot_tuple_index, PySem.F.type_tuple_index, pl.typeIs, fun a e => by cases e; exact ⟨ob, (I1.hok p _ hz).1, hd⟩, ?_⟩
  have hA := ha.run cpos pins s1 σ H1 _ I1 q1
  rw [hs] at hA ⊢
  refine Calls.callWith_builtin (by show (false || (backTo cpos (starEach es X.env)).any (·.1)) = false; rw [hplain] <;> rfl) (Calls.evalArgs_plain ?_)
  exact thn hA fun us s2 ⟨vs, H2, I2, r2, q2⟩ => mt_tup_index pins s2 σ H2 (.ref p) vs (.ref p) us Q I2 rfl r2 q2
end
end Ok
set_option maxRecDepth 100000
set_option maxHeartbeats 4000000
/-! The text by places, words as texts, the small defs. -/
namespace Ok
open PySem PySem.Spec PyProof.Rows L2 HT
open Tm (Tk T Good)
def topS (i : Nat) : Stmt := PySem.Challenge.pw_oncekinds_k17_whole_steps_of_parts.main.body.getD i (.Pass ⟨0, 0, 0, 0⟩)
/-- a def of the text under its name, its parameters -/
structure Dn (K : PySem.W.Frag) (mg : Str → Option Value) (x : Str) (st : Stmt) (ps : List Str) : Prop where
  ex : ∃ (f : Addr) (fd : FuncData), C8.Def K mg x st f fd ∧ Binds K fd ps []
/-- names of built-ins that the text leaves alone -/
structure Bt (mg : Str → Option Value) : Prop where
  z_str : mg "str" = none
  z_tuple : mg "tuple" = none
  z_int : mg "int" = none
  z_bool : mg "bool" = none
  z_list : mg "list" = none
  z_len : mg "len" = none
  z_abs : mg "abs" = none
  z_max : mg "max" = none
  z_min : mg "min" = none
  z_sum : mg "sum" = none
  z_all : mg "all" = none
  z_isinstance : mg "isinstance" = none
  z_range : mg "range" = none
  z_enumerate : mg "enumerate" = none
  mw : ∃ u, mg "MOST_WORDS" = some u ∧ RelV (.int 1000) u
/-! ### words as texts -/
abbrev Nm := List Nat
abbrev Wd := Tk Nm
def enc : Wd → Str
  | .g => SX.S [64]
  | .t x => SX.S (47 :: x)
  | .u x => SX.S x
def eV (k : Wd) : V := .str (enc k)
def OkN (x : Nm) : Prop := 1 ≤ x.length ∧ x.length ≤ 8 ∧ ∀ c ∈ x, 97 ≤ c ∧ c ≤ 122
def OkW : Wd → Prop
  | .g => True
  | .t x => OkN x
  | .u x => OkN x
def isG : Wd → Bool
  | .g => true
  | _ => false
def isTk : Wd → Bool
  | .t _ => true
  | _ => false
def asks : Wd → Nat
  | .g => 2
  | .t _ => 1
  | .u _ => 0
def nmOf : Wd → Nm
  | .g => [64]
  | .t x => x
  | .u x => x
theorem lit_at : ("@" : Str) = SX.S [64] := by decide +kernel
theorem lit_sl : ("/" : Str) = SX.S [47] := by decide +kernel
theorem lit_a : ("a" : Str) = SX.S [97] := by decide +kernel
theorem lit_z : ("z" : Str) = SX.S [122] := by decide +kernel
theorem OkN.head {x : Nm} (h : OkN x) : ∃ c r, x = c :: r ∧ 97 ≤ c ∧ c ≤ 122 := by
  cases x with
  | nil => exact absurd h.1 (by simp)
  | cons c r => exact ⟨c, r, rfl, h.2.2 c List.mem_cons_self⟩
theorem enc_inj {k j : Wd} (hk : OkW k) (hj : OkW j) (h : enc k = enc j) : k = j := by
  cases k with
  | g =>
    cases j with
    | g => rfl
    | t x =>
      have := SX.S_inj h
      simp at this
    | u x =>
      have e := SX.S_inj h
      obtain ⟨c, r, q, h1, h2⟩ := OkN.head hj
      rw [q] at e
      simp at e
      omega
  | t x =>
    cases j with
    | g =>
      have := SX.S_inj h
      simp at this
    | t y =>
      have := SX.S_inj h
      simp at this
      rw [this]
    | u y =>
      have e := SX.S_inj h
      obtain ⟨c, r, q, h1, h2⟩ := OkN.head hj
      rw [q] at e
      simp at e
      omega
  | u x =>
    cases j with
    | g =>
      have e := SX.S_inj h
      obtain ⟨c, r, q, h1, h2⟩ := OkN.head hk
      rw [q] at e
      simp at e
      omega
    | t y =>
      have e := SX.S_inj h
      obtain ⟨c, r, q, h1, h2⟩ := OkN.head hk
      rw [q] at e
      simp at e
      omega
    | u y => rw [SX.S_inj h]
theorem enc_len {k : Wd} (h : OkW k) : (enc k).length ≤ 9 := by
  cases k with
  | g => exact by decide
  | t x =>
    have := h.2.1
    show (SX.S (47 :: x)).length ≤ 9
    rw [SX.S_len, List.length_cons]
    omega
  | u x =>
    have := h.2.1
    show (SX.S x).length ≤ 9
    rw [SX.S_len]
    omega
theorem szl {n : Nat} (h : n ≤ 100000) : n ≤ sizeLine := Nat.le_trans h (by decide)
theorem szt {n : Nat} (h : n < 100000) : n < sizeLine := Nat.lt_of_lt_of_le h (by decide)
theorem eq_at {k : Wd} (h : OkW k) : decide (eV k = V.str ("@" : Str)) = isG k := by
  rw [lit_at]
  cases k with
  | g => exact decide_eq_true rfl
  | t x => exact decide_eq_false fun e => nomatch enc_inj (k := .t x) (j := .g) h trivial (V.str.inj e)
  | u x => exact decide_eq_false fun e => nomatch enc_inj (k := .u x) (j := .g) h trivial (V.str.inj e)
theorem first_sl {k : Wd} (h : OkW k) : decide (V.str (Txt.slice (enc k) none (some 1)) = V.str ("/" : Str)) = isTk k := by
  rw [lit_sl]
  cases k with
  | g =>
    have e : Txt.slice (enc .g) none (some 1) = SX.S [64] := SX.slice_to (a := [64]) (i := 1) (by decide)
    rw [e]
    exact decide_eq_false fun e => by simpa using SX.S_inj (V.str.inj e)
  | t x =>
    have e : Txt.slice (enc (.t x)) none (some 1) = SX.S [47] := SX.slice_to (a := 47 :: x) (i := 1) (by decide)
    rw [e]
    exact decide_eq_true rfl
  | u x =>
    obtain ⟨c, r, q, h1, h2⟩ := OkN.head h
    have e : Txt.slice (enc (.u x)) none (some 1) = SX.S [c] := by
      show Txt.slice (SX.S x) none (some 1) = SX.S [c]
      rw [q]
      exact SX.slice_to (a := c :: r) (i := 1) (by decide)
    rw [e]
    exact decide_eq_false fun e => by
      have := SX.S_inj (V.str.inj e)
      simp at this
      omega
theorem behind_sl (x : Nm) : Txt.slice (SX.S (47 :: x)) (some 1) none = SX.S x := SX.slice_from (a := 47 :: x) (i := 1) (by decide)
/-! ### heaps -/
theorem _root_.L2.Same.mutd {H H' : Hp} {p : Addr} {o : HO} (e : Same H H') (h : H p = none) : Same H (upd H' p o) := fun a u ha => by
  rw [upd_ne (ne_of_none ha h)]
  exact e a u ha
theorem _root_.L2.Same.newd {H H' : Hp} {p : Addr} {o : HO} (e : Same H H') (h : H' p = none) : Same H (upd H' p o) := e.trans (same_new h o)
theorem _root_.L2.Same.tupd {K : PySem.W.Frag} {H H' : Hp} {a : Addr} {xs : List V} (e : Same H H') (h : SqT K H a xs) : SqT K H' a xs := by
  rcases h with (h | ⟨o, h⟩) | h
  · exact .inl (.inl (e _ _ h))
  · exact .inl (.inr ⟨o, e _ _ h⟩)
  · exact .inr h
theorem tup_ty {K : PySem.W.Frag} {H : Hp} {a : Addr} {xs : List V} (h : SqT K H a xs) : TyX K H (.ref a) (.type "tuple") := by
  rcases h with (h | ⟨o, h⟩) | ⟨o, its, n, h, c, _⟩
  · exact .base (.tup h)
  · exact .fTuple h
  · exact .kTuple h c
/-- for i, x in enumerate(t): the two names -/
theorem for_en {K : PySem.W.Frag} {a : Addr} {xs : List V} {p q : Nat} {tb : TS} {D : Ends} {σ : L2.St} {H : Hp} (Pv : Nat → L2.St → Hp → Prop) (h0 : Pv 0 σ H) (hl : ∀ i σ H, i ≤ xs.length → Pv i σ H → SqT K H a xs)
    (hs : ∀ i x σ H H', xs[i]? = some x → Pv i σ H → Same H H' → tb { D with nx := Pv (i + 1), ct := Pv (i + 1), bk := D.nx } ((σ.set p (some (.int (i : Nat)))).set q (some x)) H') (hd : ∀ σ H, Pv xs.length σ H → D.nx σ H) :
    ∃ W : Nat → Nat → L2.St → Hp → Prop, (∃ m, W 0 m σ H) ∧ ∀ i m σ H, W i m σ H →
      ((ItE K a).stop i H ∧ D.nx σ H) ∨ ((ItE K a).go i H ∧ ∃ N : L2.St → Hp → Prop, (∀ σ' H', N σ' H' → ∃ m', m' < m ∧ W (i + 1) m' σ' H') ∧ ∀ x H', (ItE K a).yld i H x H' → gTup K 2 (gCons (gName p) (gCons (gName q) gNil)) x σ H' fun σ2 H2 => tb { D with nx := N, ct := N, bk := D.nx } σ2 H2) := by
  refine ⟨fun i m σ H => m = xs.length - i ∧ i ≤ xs.length ∧ Pv i σ H, ⟨xs.length, by simp, Nat.zero_le _, h0⟩, ?_⟩
  rintro i m σ H ⟨rfl, hi, pv⟩
  have z := hl i σ H hi pv
  by_cases hlt : i < xs.length
  · refine .inr ⟨⟨xs, xs[i], z, List.getElem?_eq_getElem hlt⟩, Pv (i + 1), fun σ' H' p' => ⟨xs.length - (i + 1), by omega, rfl, hlt, p'⟩, fun x H' y => ?_⟩
    obtain ⟨T, x, rfl, nT, rfl, f⟩ := y
    exact ⟨T, _, rfl, .inl (.inl upd_same), rfl, _, _, rfl, _, _, rfl, rfl, hs i x σ H _ (f xs z) pv (same_new nT _)⟩
  · have e : i = xs.length := by omega
    subst e
    exact .inl ⟨⟨xs, z, rfl⟩, hd σ H pv⟩
/-- a comprehension's list grows -/
theorem grow {H1 H H4 : Hp} {D : Addr} {xs : List V} {y : V} (s : Same H1 H) (nD : H1 D = none) (hD : H D = some (.lst xs)) (s4 : Same H H4) (hz : xs.length < 100000) :
    H4 D = some (.lst xs) ∧ xs.length < sizeLine ∧ Same H1 (upd H4 D (.lst (xs ++ [y]))) ∧ (upd H4 D (.lst (xs ++ [y]))) D = some (.lst (xs ++ [y])) :=
  ⟨s4 _ _ hD, szt hz, Same.mutd (s.trans s4) nD, upd_same⟩
/-! ### the small defs -/
variable {P : Program} {w : World} {K : PySem.W.Frag} {mg : Str → Option Value} {base : Heap}
def spIsGive : Sp := fun vs H Q _ => ∃ k, OkW k ∧ vs = [eV k] ∧ Q (.bl (isG k)) H
def spIsTake : Sp := fun vs H Q _ => ∃ k, OkW k ∧ vs = [eV k] ∧ Q (.bl (isTk k)) H
def spNameOf : Sp := fun vs H Q _ => ∃ k, OkW k ∧ vs = [eV k] ∧ Q (.str (SX.S (nmOf k))) H
def spAsked : Sp := fun vs H Q _ => ∃ k, OkW k ∧ vs = [eV k] ∧ Q (.int (asks k : Nat)) H
abbrev st_is_give : Stmt := topS 7
abbrev nm_is_give : List Str := ["word"]
theorem sc_is_give : FnScope nm_is_give ["word"] (C8.fnScope st_is_give) := ⟨rfl, rfl, rfl, by decide +kernel, rfl, by decide +kernel, by decide +kernel⟩
theorem ok_is_give (D : Dn K mg "is_give" st_is_give ["word"]) : C8.Cal P w K mg base 1 "is_give" spIsGive [] := by
  obtain ⟨f, fd, F, b⟩ := D.ex
  have nd := sc_is_give.nd
  refine C8.cal0 F b .nil sc_is_give (fun vs H Q E h => ?_) (fun cdv A outer s H vs Q E hr h => ?_)
  · obtain ⟨k, _, rfl, _⟩ := h
    rfl
  · obtain ⟨k, hk, rfl, q⟩ := h
    refine ⟨_, (pss_one (ps_ret (pe_cmpR op_eq (pv 0) pe_str (nomark _)))), ?_⟩
    refine ⟨_, rfl, rfl, ?_⟩
    show Q (.bl (decide (eV k = V.str ("@" : Str)))) H
    rw [eq_at hk]
    exact q
abbrev st_is_take : Stmt := topS 8
abbrev nm_is_take : List Str := ["word"]
theorem sc_is_take : FnScope nm_is_take ["word"] (C8.fnScope st_is_take) := ⟨rfl, rfl, rfl, by decide +kernel, rfl, by decide +kernel, by decide +kernel⟩
theorem ok_is_take (D : Dn K mg "is_take" st_is_take ["word"]) : C8.Cal P w K mg base 1 "is_take" spIsTake [] := by
  obtain ⟨f, fd, F, b⟩ := D.ex
  have nd := sc_is_take.nd
  refine C8.cal0 F b .nil sc_is_take (fun vs H Q E h => ?_) (fun cdv A outer s H vs Q E hr h => ?_)
  · obtain ⟨k, _, rfl, _⟩ := h
    rfl
  · obtain ⟨k, hk, rfl, q⟩ := h
    refine ⟨_, (pss_one (ps_ret (pe_cmpR op_eq (pe_slice C8.sl_txt (pv 0) po_none (po_some pe_int)) pe_str (nomark _)))), ?_⟩
    refine ⟨_, rfl, 1, rfl, enc k, rfl, szl (Nat.le_trans (enc_len hk) (by decide)), rfl, ?_⟩
    show Q (.bl (decide (V.str (Txt.slice (enc k) none (some 1)) = V.str ("/" : Str)))) H
    rw [first_sl hk]
    exact q
abbrev st_name_of : Stmt := topS 9
abbrev nm_name_of : List Str := ["word"]
theorem sc_name_of : FnScope nm_name_of ["word"] (C8.fnScope st_name_of) := ⟨rfl, rfl, rfl, by decide +kernel, rfl, by decide +kernel, by decide +kernel⟩
theorem ok_name_of (D : Dn K mg "name_of" st_name_of ["word"]) (c_is_take : C8.Cal P w K mg base 1 "is_take" spIsTake []) : C8.Cal P w K mg base 2 "name_of" spNameOf [] := by
  obtain ⟨f, fd, F, b⟩ := D.ex
  have nd := sc_name_of.nd
  refine C8.cal0 F b .nil sc_name_of (fun vs H Q E h => ?_) (fun cdv A outer s H vs Q E hr h => ?_)
  · obtain ⟨k, _, rfl, _⟩ := h
    rfl
  · obtain ⟨k, hk, rfl, q⟩ := h
    refine ⟨_, (pss_one (ps_ret (pe_ifExp (pt_val (C8.pe_c c_is_take hr (by decide) rfl (pa_cons (pv 0) pa_nil))) (pe_slice C8.sl_txt (pv 0) (po_some pe_int) po_none) (pv 0)))), ?_⟩
    refine ⟨_, rfl, k, hk, rfl, _, rfl, ?_⟩
    cases k with
    | g => exact iteF ⟨_, rfl, q⟩
    | u x => exact iteF ⟨_, rfl, q⟩
    | t x =>
      refine iteT ⟨_, rfl, 1, rfl, _, rfl, szl (Nat.le_trans (enc_len hk) (by decide)), ?_⟩
      show Q (.str (Txt.slice (SX.S (47 :: x)) (some 1) none)) H
      rw [behind_sl]
      exact q
abbrev st_asked_by : Stmt := topS 11
abbrev nm_asked_by : List Str := ["word"]
theorem sc_asked_by : FnScope nm_asked_by ["word"] (C8.fnScope st_asked_by) := ⟨rfl, rfl, rfl, by decide +kernel, rfl, by decide +kernel, by decide +kernel⟩
theorem ok_asked_by (D : Dn K mg "asked_by" st_asked_by ["word"]) (c_is_give : C8.Cal P w K mg base 1 "is_give" spIsGive []) (c_is_take : C8.Cal P w K mg base 1 "is_take" spIsTake []) : C8.Cal P w K mg base 2 "asked_by" spAsked [] := by
  obtain ⟨f, fd, F, b⟩ := D.ex
  have nd := sc_asked_by.nd
  refine C8.cal0 F b .nil sc_asked_by (fun vs H Q E h => ?_) (fun cdv A outer s H vs Q E hr h => ?_)
  · obtain ⟨k, _, rfl, _⟩ := h
    rfl
  · obtain ⟨k, hk, rfl, q⟩ := h
    refine ⟨_, (pss_cons (ps_if (pt_val (C8.pe_c c_is_give hr (by decide) rfl (pa_cons (pv 0) pa_nil)))
        (pss_one (ps_ret pe_int))
        pss_nil)
      (pss_one (ps_ret (pe_ifExp (pt_val (C8.pe_c c_is_take hr (by decide) rfl (pa_cons (pv 0) pa_nil))) pe_int pe_int)))), ?_⟩
    refine ⟨_, rfl, k, hk, rfl, _, rfl, ?_⟩
    cases k with
    | g => exact iteT q
    | u x => exact iteF ⟨_, rfl, .u x, hk, rfl, _, rfl, iteF q⟩
    | t x => exact iteF ⟨_, rfl, .t x, hk, rfl, _, rfl, iteT q⟩
end Ok
set_option maxRecDepth 100000
set_option maxHeartbeats 4000000
/-! Names and words judged; ends; uses. -/
namespace Ok
open PySem PySem.Spec PyProof.Rows L2 HT
open Tm (Tk T Good)
variable {P : Program} {w : World} {K : PySem.W.Frag} {mg : Str → Option Value} {base : Heap}
/-! ### is_name -/
def nmB (x : Nm) : Bool := decide (1 ≤ x.length) && (decide (x.length ≤ 8) && x.all fun c => decide (97 ≤ c) && decide (c ≤ 122))
theorem nmB_ok {x : Nm} (h : OkN x) : nmB x = true := by
  unfold nmB
  rw [decide_eq_true h.1, decide_eq_true h.2.1]
  show (x.all fun c => decide (97 ≤ c) && decide (c ≤ 122)) = true
  rw [List.all_eq_true]
  intro c hc
  obtain ⟨h1, h2⟩ := h.2.2 c hc
  simp [h1, h2]
theorem le_one (a b : Nat) : (!decide ((SX.S [b]).cps.toList < (SX.S [a]).cps.toList)) = decide (a ≤ b) := by
  by_cases h : a ≤ b
  · rw [decide_eq_true h]
    have : ¬ ([b] : List Nat) < [a] := by
      intro q
      rw [List.cons_lt_cons_iff] at q
      rcases q with q | ⟨_, q⟩
      · omega
      · exact absurd q (List.not_lt_nil _)
    show (!decide (([b] : List Nat) < [a])) = true
    rw [decide_eq_false this] <;> rfl
  · rw [decide_eq_false h]
    have : ([b] : List Nat) < [a] := by
      rw [List.cons_lt_cons_iff]
      exact .inl (by omega)
    show (!decide (([b] : List Nat) < [a])) = false
    rw [decide_eq_true this] <;> rfl
/-- of any text of at most 9 signs -/
def spIsName : Sp := fun vs H Q _ => ∃ x : Nm, x.length ≤ 9 ∧ vs = [.str (SX.S x)] ∧ ∀ H', Same H H' → Q (.bl (nmB x)) H'
theorem its_len (x : Nm) : (SX.S x).cps.toList = x := rfl
abbrev st_is_name : Stmt := topS 4
abbrev nm_is_name : List Str := ["thing", "sign"]
theorem sc_is_name : FnScope nm_is_name ["thing"] (C8.fnScope st_is_name) := ⟨rfl, rfl, rfl, by decide +kernel, rfl, by decide +kernel, by decide +kernel⟩
theorem ok_is_name (D : Dn K mg "is_name" st_is_name ["thing"]) (T : Bt mg) : C8.Cal P w K mg base 1 "is_name" spIsName [] := by
  obtain ⟨f, fd, F, b⟩ := D.ex
  have nd := sc_is_name.nd
  refine C8.cal0 F b .nil sc_is_name (fun vs H Q E h => ?_) (fun cdv A outer s H vs Q E hr h => ?_)
  · obtain ⟨k, _, rfl, _⟩ := h
    rfl
  · obtain ⟨x, hx, rfl, q⟩ := h
    refine ⟨_, (pss_one (ps_ret (pe_and (pe_callB call_isi rfl T.z_isinstance (by decide +kernel) (pa_cons (pv 0) (pa_cons (pe_bltn (v := .ty "str") rfl T.z_str (by decide +kernel) rfl) pa_nil))) (pe_and (pe_chain op_le op_le pe_int (pe_callB call_len_str rfl T.z_len PySem.boot_len (pa_cons (pv 0) pa_nil)) pe_int) (pe_one (pe_callB (cr_all rfl) rfl T.z_all (by decide +kernel) (pa_cons (pe_lc (own := [("sign", 1)]) rfl nd (pi_str (pv 0)) (blkOk_by (own := [("sign", 1)]) (N := nm_is_name) (sc := C8.fnScope st_is_name) (by decide +kernel)) (fun _ _ _ _ _ => (pg_name (i := 1) nd rfl (.inl rfl) (.inr rfl))) (fun _ _ _ _ _ => pts_nil) (fun _ _ _ _ _ => (pe_chain op_le_str op_le_str pe_str (pv 1) pe_str))) pa_nil))))))), ?_⟩
    refine ⟨_, rfl, _, _, .type "str", .type "str", true, rfl, .ty _, .base (.str _), kit_ty (by decide +kernel), true, rfl, iteT ?_⟩
    have hl : (SX.S x).length = x.length := SX.S_len x
    refine ⟨_, rfl, SX.S x, rfl, szl (by omega), 1, ((SX.S x).length : Int), rfl, rfl, _, rfl, ?_⟩
    by_cases h1' : 1 ≤ x.length
    · have e1 : decide ((1 : Int) ≤ ((SX.S x).length : Int)) = true := decide_eq_true (by omega)
      rw [e1]
      refine iteT ?_
      refine ⟨_, 8, rfl, rfl, _, rfl, ?_⟩
      by_cases h2 : x.length ≤ 8
      · have e2 : decide (((SX.S x).length : Int) ≤ 8) = true := decide_eq_true (by omega)
        rw [e2]
        refine iteT ?_
        -- the list of the flags
        refine ⟨_, rfl, SX.S x, rfl, fun D nD => lc_it walk_str (fun i H' => Same H H' ∧ H' D = some (.lst ((x.take i).map fun c => V.bl (decide (97 ≤ c) && decide (c ≤ 122))))) ⟨same_new nD _, upd_same⟩ (fun _ _ _ _ => trivial) (fun i y H2 H3 hi pv hy => ?_) (fun H2 pv => ?_)⟩
        · obtain ⟨rfl, c, hc, rfl⟩ := hy
          obtain ⟨s1, h1⟩ := pv
          have hcx : x[i]? = some c := by simpa [SX.S] using hc
          have key : ∀ b : Bool, b = (decide (97 ≤ c) && decide (c ≤ 122)) → ∃ acc, H3 D = some (.lst acc) ∧ acc.length < sizeLine ∧ (Same H (upd H3 D (.lst (acc ++ [V.bl b]))) ∧ upd H3 D (.lst (acc ++ [V.bl b])) D = some (.lst ((x.take (i + 1)).map fun c => V.bl (decide (97 ≤ c) && decide (c ≤ 122))))) := by
            rintro b rfl
            obtain ⟨g1, g2, g3, g4⟩ := grow (y := V.bl (decide (97 ≤ c) && decide (c ≤ 122))) s1 nD h1 (Same.refl _) (by rw [List.length_map, List.length_take]; omega)
            refine ⟨_, g1, g2, g3, ?_⟩
            rw [g4, List.take_add_one, hcx, List.map_append]
            rfl
          refine ⟨rfl, _, rfl, SX.S [97], SX.S [c], lit_a ▸ rfl, rfl, _, rfl, ?_⟩
          rw [le_one]
          by_cases q1 : 97 ≤ c
          · rw [decide_eq_true q1]
            refine iteT ?_
            refine ⟨SX.S [c], SX.S [122], rfl, lit_z ▸ rfl, ?_⟩
            rw [le_one]
            exact key _ (by rw [decide_eq_true q1]; rfl)
          · rw [decide_eq_false q1]
            refine iteF ?_
            exact key _ (by rw [decide_eq_false q1]; rfl)
        · obtain ⟨s1, h1⟩ := pv
          have ex : x.take (SX.S x).cps.size = x := List.take_of_length_le (Nat.le_of_eq (by simp [SX.S]))
          rw [ex] at h1
          refine ⟨D, x.map fun c => decide (97 ≤ c) && decide (c ≤ 122), rfl, .inl (.inl (by rw [h1, List.map_map]; rfl)), ?_⟩
          have e3 : (x.map fun c => decide (97 ≤ c) && decide (c ≤ 122)).all id = nmB x := by
            unfold nmB
            rw [decide_eq_true h1', decide_eq_true h2, List.all_map]
            rfl
          rw [e3]
          exact q H2 s1
      · have e2 : decide (((SX.S x).length : Int) ≤ 8) = false := decide_eq_false (by omega)
        rw [e2]
        refine iteF ?_
        have e3 : nmB x = false := by
          unfold nmB
          rw [decide_eq_false h2]
          simp
        exact e3 ▸ q H (Same.refl H)
    · have e1 : decide ((1 : Int) ≤ ((SX.S x).length : Int)) = false := decide_eq_false (by omega)
      rw [e1]
      refine iteF ⟨_, rfl, iteF ?_⟩
      have e3 : nmB x = false := by
        unfold nmB
        rw [decide_eq_false h1']
        simp
      exact e3 ▸ q H (Same.refl H)
/-! ### programs -/
structure Pg (t : T Nm) : Prop where
  g : Good t
  nm : ∀ x ∈ t.occ, OkN x
theorem Pg.wd {t : T Nm} (h : Pg t) {k : Wd} (hk : k ∈ t.ws) : OkW k := by
  cases k with
  | g => trivial
  | t x => exact h.nm x (Tm.bnd_occ h.g.ok (Tm.mem_bnd.mpr hk))
  | u x => exact h.nm x (Tm.mem_occ.mpr hk)
theorem Pg.at {t : T Nm} (h : Pg t) {i : Nat} {k : Wd} (hk : t.ws[i]? = some k) : OkW k := h.wd (List.mem_of_getElem? hk)
/-- the words of t stand at a -/
def Wds (K : PySem.W.Frag) (H : Hp) (a : Addr) (t : T Nm) : Prop := SqT K H a (t.ws.map eV)
theorem Wds.same {H H' : Hp} {a : Addr} {t : T Nm} (h : Wds K H a t) (s : Same H H') : Wds K H' a t := s.tupd h
theorem map_at {ws : List Wd} {i : Nat} {v : V} (h : (ws.map eV)[i]? = some v) : ∃ k, ws[i]? = some k ∧ v = eV k := by
  rw [List.getElem?_map] at h
  cases e : ws[i]? with
  | none =>
    rw [e] at h
    cases h
  | some k =>
    rw [e] at h
    exact ⟨k, rfl, (Option.some.inj h).symm⟩
theorem at_map {ws : List Wd} {i : Nat} {k : Wd} (h : ws[i]? = some k) : (ws.map eV)[i]? = some (eV k) := by
  rw [List.getElem?_map, h]
  rfl
/-- a word is judged -/
def spIsWord : Sp := fun vs H Q _ => ∃ k, OkW k ∧ vs = [eV k] ∧ ∀ H', Same H H' → Q (.bl true) H'
abbrev st_is_word : Stmt := topS 10
abbrev nm_is_word : List Str := ["thing"]
theorem sc_is_word : FnScope nm_is_word ["thing"] (C8.fnScope st_is_word) := ⟨rfl, rfl, rfl, by decide +kernel, rfl, by decide +kernel, by decide +kernel⟩
theorem ok_is_word (D : Dn K mg "is_word" st_is_word ["thing"]) (T : Bt mg) (c_is_name : C8.Cal P w K mg base 1 "is_name" spIsName []) : C8.Cal P w K mg base 2 "is_word" spIsWord [] := by
  obtain ⟨f, fd, F, b⟩ := D.ex
  have nd := sc_is_word.nd
  refine C8.cal0 F b .nil sc_is_word (fun vs H Q E h => ?_) (fun cdv A outer s H vs Q E hr h => ?_)
  · obtain ⟨k, _, rfl, _⟩ := h
    rfl
  · obtain ⟨k, hk, rfl, q⟩ := h
    refine ⟨_, (pss_cons (ps_if (pt_not (pt_val (pe_callB call_isi rfl T.z_isinstance (by decide +kernel) (pa_cons (pv 0) (pa_cons (pe_bltn (v := .ty "str") rfl T.z_str (by decide +kernel) rfl) pa_nil)))))
        (pss_one (ps_ret pe_bl))
        pss_nil)
      (pss_one (ps_ret (pe_or (pe_cmpR op_eq (pv 0) pe_str (nomark _)) (pe_or (C8.pe_c c_is_name hr (by decide) rfl (pa_cons (pv 0) pa_nil)) (pe_one (pe_and (pe_cmpR op_eq (pe_slice C8.sl_txt (pv 0) po_none (po_some pe_int)) pe_str (nomark _)) (pe_one (C8.pe_c c_is_name hr (by decide) rfl (pa_cons (pe_slice C8.sl_txt (pv 0) (po_some pe_int) po_none) pa_nil)))))))))), ?_⟩
    refine ⟨_, rfl, _, _, .type "str", .type "str", true, rfl, .ty _, .base (.str _), kit_ty (by decide +kernel), true, rfl, iteF ?_⟩
    refine ⟨_, rfl, rfl, isG k, ?_, ?_⟩
    · show V.bl (decide (eV k = V.str ("@" : Str))) = V.bl (isG k)
      rw [eq_at hk]
    · cases k with
      | g => exact iteT (q H (Same.refl H))
      | u x =>
        refine iteF ⟨_, rfl, x, by have := hk.2.1; omega, rfl, fun H1 s1 => ⟨_, rfl, ?_⟩⟩
        rw [nmB_ok hk]
        exact iteT (q H1 s1)
      | t x =>
        refine iteF ⟨_, rfl, 47 :: x, by have := hk.2.1; simp only [List.length_cons]; omega, rfl, fun H1 s1 => ⟨_, rfl, ?_⟩⟩
        have e : nmB (47 :: x) = false := by
          unfold nmB
          simp
        rw [e]
        refine iteF ⟨_, rfl, 1, rfl, _, rfl, szl (Nat.le_trans (enc_len hk) (by decide)), rfl, true, ?_, iteT ?_⟩
        · show V.bl (decide (V.str (Txt.slice (enc (.t x)) none (some 1)) = V.str ("/" : Str))) = V.bl true
          rw [first_sl hk]
          rfl
        · refine ⟨_, rfl, 1, rfl, _, rfl, szl (Nat.le_trans (enc_len hk) (by decide)), x, by have := hk.2.1; omega, ?_, fun H2 s2 => ?_⟩
          · show [V.str (Txt.slice (SX.S (47 :: x)) (some 1) none)] = [V.str (SX.S x)]
            rw [behind_sl]
          · rw [nmB_ok hk]
            exact q H2 (s1.trans s2)
/-- a judge that finds no fault -/
def spFine (K : PySem.W.Frag) : Sp := fun vs H Q _ => ∃ a t, vs = [.ref a] ∧ Pg t ∧ t.sz ≤ 1000 ∧ Wds K H a t ∧ ∀ H', Same H H' → Q .non H'
theorem drop_cons {α : Type} {l : List α} {i : Nat} {k : α} (h : l[i]? = some k) : l.drop i = k :: l.drop (i + 1) := by
  obtain ⟨hi, e⟩ := List.getElem?_eq_some_iff.mp h
  rw [← e]
  exact List.drop_eq_getElem_cons hi
abbrev st_wrong_end : Stmt := topS 12
abbrev nm_wrong_end : List Str := ["words", "asked", "place", "word"]
theorem sc_wrong_end : FnScope nm_wrong_end ["words"] (C8.fnScope st_wrong_end) := ⟨rfl, rfl, rfl, by decide +kernel, rfl, by decide +kernel, by decide +kernel⟩
theorem ok_wrong_end (D : Dn K mg "wrong_end" st_wrong_end ["words"]) (T : Bt mg) (c_asked_by : C8.Cal P w K mg base 2 "asked_by" spAsked []) : C8.Cal P w K mg base 3 "wrong_end" (spFine K) [] := by
  obtain ⟨f, fd, F, b⟩ := D.ex
  have nd := sc_wrong_end.nd
  refine C8.cal0 F b .nil sc_wrong_end (fun vs H Q E h => ?_) (fun cdv A outer s H vs Q E hr h => ?_)
  · obtain ⟨a, t, rfl, _⟩ := h
    rfl
  · obtain ⟨a, t, rfl, hp, hz, hw, q⟩ := h
    refine ⟨_, (pss_cons (ps_set (i := 1) nd rfl (.inl rfl) pe_int)
      (pss_cons (ps_for PassesOwn.never rfl (pi_enT rfl T.z_enumerate (pa_cons (pv 0) pa_nil)) (pg_tup rfl (pgs_cons (pg_name (i := 2) nd rfl (.inl rfl)) (pgs_cons (pg_name (i := 3) nd rfl (.inl rfl)) pgs_nil)))
        (pss_cons (ps_if (pt_cmpR op_eq (pv 1) pe_int (nomark _))
            (pss_one (ps_ret (pv 2)))
            pss_nil)
          (pss_one (ps_aug (i := 1) nd rfl (.inl rfl) (pe_op op_sub (C8.pe_c c_asked_by hr (by decide) rfl (pa_cons (pv 3) pa_nil)) pe_int) ip_add))))
      (pss_one (ps_ret (pe_ifExp (pt_cmpR op_gt (pv 1) pe_int (nomark _)) (pe_callB call_len_seq rfl T.z_len PySem.boot_len (pa_cons (pv 0) pa_nil)) pe_non))))), ?_⟩
    refine ⟨_, rfl, a, _, rfl, hw, for_en (xs := t.ws.map eV) (fun i σ H' => ∃ (p v : Option V) (n : Int) (ts : List (Tm.T Nm)), σ = [some (.ref a), some (.int n), p, v] ∧ Same H H' ∧ t.ws.drop i = Tm.fw ts ∧ n = (ts.length : Nat))
      ⟨none, none, 1, [t], rfl, Same.refl H, by simp [Tm.fw], rfl⟩ (fun i σ H' _ pv => ?_) (fun i x σ H1 H2 hx pv s2 => ?_) (fun σ H' pv => ?_)⟩
    · obtain ⟨_, _, _, _, _, s1, _⟩ := pv
      exact s1.tupd hw
    · obtain ⟨p, v, n, ts, rfl, s1, e, en⟩ := pv
      obtain ⟨k, hk, rfl⟩ := map_at hx
      rw [drop_cons hk] at e
      have hne : ts.length ≠ 0 := by
        intro z
        rw [List.length_eq_zero_iff.mp z] at e
        cases e
      refine ⟨_, rfl, rfl, false, ?_, iteF ?_⟩
      · show V.bl (decide (V.int n = V.int 0)) = V.bl false
        rw [decide_eq_false fun z => hne (by have := V.int.inj z; omega)]
      · refine ⟨_, rfl, _, rfl, k, hp.at hk, rfl, _, _, rfl, rfl, _, _, rfl, rfl, ?_⟩
        rcases Tm.fw_cons e with ⟨y, us, rfl, rfl, e2⟩ | ⟨y, c, us, rfl, rfl, e2⟩ | ⟨f, c, us, rfl, rfl, e2⟩
        · refine ⟨some (.int (i : Nat)), some (eV (.u y)), _, us, rfl, s1.trans s2, e2, ?_⟩
          simp only [List.length_cons, asks] at en ⊢
          omega
        · refine ⟨some (.int (i : Nat)), some (eV (.t y)), _, c :: us, rfl, s1.trans s2, e2, ?_⟩
          simp only [List.length_cons, asks] at en ⊢
          omega
        · refine ⟨some (.int (i : Nat)), some (eV .g), _, f :: c :: us, rfl, s1.trans s2, e2, ?_⟩
          simp only [List.length_cons, asks] at en ⊢
          omega
    · obtain ⟨p, v, n, ts, rfl, s1, e, en⟩ := pv
      rw [List.length_map, List.drop_length] at e
      have : ts = [] := Tm.fw_inj ts [] e.symm
      subst this
      have en : n = 0 := en
      subst en
      refine ⟨_, rfl, 0, 0, rfl, rfl, false, rfl, iteF ?_⟩
      exact q H' s1
abbrev st_wrong_second : Stmt := topS 13
abbrev nm_wrong_second : List Str := ["words", "met", "place", "word"]
theorem sc_wrong_second : FnScope nm_wrong_second ["words"] (C8.fnScope st_wrong_second) := ⟨rfl, rfl, rfl, by decide +kernel, rfl, by decide +kernel, by decide +kernel⟩
theorem ok_wrong_second (D : Dn K mg "wrong_second" st_wrong_second ["words"]) (T : Bt mg) (c_is_give : C8.Cal P w K mg base 1 "is_give" spIsGive []) : C8.Cal P w K mg base 2 "wrong_second" (spFine K) [] := by
  obtain ⟨f, fd, F, b⟩ := D.ex
  have nd := sc_wrong_second.nd
  refine C8.cal0 F b .nil sc_wrong_second (fun vs H Q E h => ?_) (fun cdv A outer s H vs Q E hr h => ?_)
  · obtain ⟨a, t, rfl, _⟩ := h
    rfl
  · obtain ⟨a, t, rfl, hp, hz, hw, q⟩ := h
    have hu := hu_of hr
    refine ⟨_, (pss_cons (ps_set (i := 1) nd rfl (.inl rfl) pe_dnewK)
      (pss_cons (ps_for PassesOwn.never rfl (pi_enT rfl T.z_enumerate (pa_cons (pv 0) pa_nil)) (pg_tup rfl (pgs_cons (pg_name (i := 2) nd rfl (.inl rfl)) (pgs_cons (pg_name (i := 3) nd rfl (.inl rfl)) pgs_nil)))
        (pss_one (ps_if (pt_not (pt_val (C8.pe_c c_is_give hr (by decide) rfl (pa_cons (pv 3) pa_nil))))
            (pss_cons (ps_if (pt_cmp (pc_din hu (pv 3) (pv 1)))
                (pss_one (ps_ret (pv 2)))
                pss_nil)
              (pss_one (ps_dput hu (pv 1) (pv 3) pe_bl rfl)))
            pss_nil)))
      (pss_one (ps_ret pe_non)))), ?_⟩
    refine fun d nd0 => ?_
    refine ⟨_, rfl, a, _, rfl, (same_new nd0 _).tupd hw, for_en (xs := t.ws.map eV) (fun i σ H' => ∃ (p v : Option V) (kvs : List (Key × V)), σ = [some (.ref a), some (.ref d), p, v] ∧ Same H H' ∧ H' d = some (.dK kvs) ∧ kvs.length ≤ i ∧
        ∀ key, valV kvs key ≠ none → ∃ j k, j < i ∧ t.ws[j]? = some k ∧ k ≠ .g ∧ key = Sum.inr (enc k))
      ⟨none, none, [], rfl, same_new nd0 _, upd_same, Nat.le_refl _, fun key h => absurd rfl h⟩ (fun i σ H' _ pv => ?_) (fun i x σ H1 H2 hx pv s2 => ?_) (fun σ H' pv => ?_)⟩
    · obtain ⟨_, _, _, _, s1, _⟩ := pv
      exact s1.tupd hw
    · obtain ⟨p, v, kvs, rfl, s1, hd, hl, hk0⟩ := pv
      obtain ⟨k, hk, rfl⟩ := map_at hx
      have hok := hp.at hk
      have hd2 := s2 _ _ hd
      have hlt : i < t.sz := by
        rw [← Tm.ws_len]
        exact (List.getElem?_eq_some_iff.mp hk).1
      refine ⟨_, rfl, k, hok, rfl, _, rfl, ?_⟩
      by_cases hne : k = .g
      · subst hne
        refine iteF ⟨some (.int (i : Nat)), some (eV .g), kvs, rfl, s1.trans s2, hd2, by omega, fun key h => ?_⟩
        obtain ⟨j, k, h1, h2⟩ := hk0 key h
        exact ⟨j, k, by omega, h2⟩
      · have hg : isG k = false := by
          cases k with
          | g => exact absurd rfl hne
          | _ => rfl
        rw [hg]
        refine iteT ?_
        have hnone : valV kvs (Sum.inr (enc k) : Key) = none := by
          cases e : valV kvs (Sum.inr (enc k) : Key) with
          | none => rfl
          | some z =>
            obtain ⟨j, k', h1, h2, h3, h4⟩ := hk0 _ (by rw [e]; exact fun z => nomatch z)
            have ek : k = k' := enc_inj hok (hp.at h2) (Sum.inr.inj h4)
            subst ek
            have := hp.g.once hne hk h2
            omega
        refine ⟨_, rfl, _, rfl, d, _, rfl, DGet.k (k := Sum.inr (enc k)) hd2, false, by rw [hnone]; rfl, iteF ?_⟩
        refine ⟨_, rfl, _, rfl, d, _, rfl, DPut.k (k := Sum.inr (enc k)) hd2 (szt (by omega)), ?_⟩
        have nd1 : H d = none := nd0
        refine ⟨some (.int (i : Nat)), some (eV k), _, rfl, Same.mutd (s1.trans s2) nd1, upd_same, ?_, fun key h => ?_⟩
        · have := length_putK kvs (Sum.inr (enc k) : Key) (V.bl true)
          omega
        · rw [valV_put] at h
          by_cases ek : key = Sum.inr (enc k)
          · exact ⟨i, k, by omega, hk, hne, ek⟩
          · rw [if_neg ek] at h
            obtain ⟨j, k', h1, h2⟩ := hk0 key h
            exact ⟨j, k', by omega, h2⟩
    · obtain ⟨p, v, kvs, rfl, s1, _⟩ := pv
      exact q H' s1
end Ok
set_option maxRecDepth 100000
set_option maxHeartbeats 4000000
/-! The ends. -/
namespace Ok
open PySem PySem.Spec PyProof.Rows L2 HT
open Tm (Tk T Good)
variable {P : Program} {w : World} {K : PySem.W.Frag} {mg : Str → Option Value} {base : Heap}
/-- numbers as values -/
def iV (n : Nat) : V := .int (n : Nat)
def spEnds (K : PySem.W.Frag) : Sp := fun vs H Q _ => ∃ a t, vs = [.ref a] ∧ Pg t ∧ t.sz ≤ 1000 ∧ Wds K H a t ∧ ∀ p H', Same H H' → SqT K H' p ((t.ends 0).map iV) → Q (.ref p) H'
theorem flat_rep {α : Type} (x : α) : ∀ n : Nat, (List.replicate n [x]).flatten = List.replicate n x
  | 0 => rfl
  | n + 1 => by
    rw [List.replicate_succ, List.flatten_cons, flat_rep x n]
    rfl
/-- what the loop holds behind i turns, from the last word on -/
structure EndsAt (t : T Nm) (i : Nat) (fo st : List Nat) (ts : List (T Nm)) : Prop where
  le : i ≤ t.sz
  wd : t.ws.drop (t.sz - i) = Tm.fw ts
  fo : fo = Tm.fe ts (t.sz - i)
  st : st = Tm.fs ts (t.sz - i)
theorem EndsAt.start (t : T Nm) : EndsAt t 0 [] [] [] := ⟨Nat.zero_le _, by rw [Nat.sub_zero, ← Tm.ws_len, List.drop_length]; rfl, rfl, rfl⟩
theorem EndsAt.stop {t : T Nm} {fo st : List Nat} {ts : List (T Nm)} (h : EndsAt t t.sz fo st ts) : fo = t.ends 0 := by
  have e := h.wd
  rw [Nat.sub_self, List.drop_zero, ← Tm.ws_fw t] at e
  have := Tm.fw_inj _ _ e
  subst this
  rw [h.fo, Nat.sub_self, Tm.fe_one]
/-- one word more: its end stands in the stack, or right behind it -/
theorem EndsAt.turn {t : T Nm} {i : Nat} {fo st : List Nat} {ts : List (T Nm)} (h : EndsAt t i fo st ts) (hi : i < t.sz) : ∃ (p : Nat) (k : Wd) (e : Nat) (us : List (T Nm)), t.sz = p + 1 + i ∧ t.ws[p]? = some k ∧ asks k ≤ st.length ∧
    e = (if asks k = 0 then p + 1 else st.getD (asks k - 1) 0) ∧ EndsAt t (i + 1) (e :: fo) (e :: st.drop (asks k)) us := by
  have hl := Tm.ws_len t
  obtain ⟨p, hp⟩ : ∃ p, t.sz = p + 1 + i := ⟨t.sz - 1 - i, by omega⟩
  have hpl : p < t.ws.length := by omega
  have ek : t.ws[p]? = some t.ws[p] := List.getElem?_eq_getElem hpl
  have ep1 : t.sz - i = p + 1 := by omega
  have ep2 : t.sz - (i + 1) = p := by omega
  obtain ⟨us, eu⟩ := Tm.fw_drop t.ws.length p [t] (by simp [Tm.fw]) (by simp [Tm.fw]; omega)
  rw [Tm.ws_fw] at eu
  have ed := drop_cons ek
  have ew := h.wd
  have eF := h.fo
  have eS := h.st
  rw [ep1] at ew eF eS
  refine ⟨p, t.ws[p], _, us, hp, ek, ?_, rfl, ?_⟩
  all_goals
    rw [eu, ew] at ed
    rcases Tm.fw_cons ed.symm with ⟨y, vs, e1, e2, e3⟩ | ⟨y, c, vs, e1, e2, e3⟩ | ⟨f, c, vs, e1, e2, e3⟩
    all_goals
      have ets := Tm.fw_inj _ _ e3
      subst ets
      rw [e1]
  · exact Nat.zero_le _
  · rw [eS, Tm.fs_len]
    exact Nat.succ_le_succ (Nat.zero_le _)
  · rw [eS, Tm.fs_len]
    exact Nat.succ_le_succ (Nat.succ_le_succ (Nat.zero_le _))
  · refine ⟨by omega, by rw [ep2, eu], ?_, ?_⟩
    · rw [ep2, e2, (Tm.fe_var y ts p).1, eF]
      rfl
    · rw [ep2, e2, (Tm.fe_var y ts p).2, eS]
      rfl
  · obtain ⟨d, r, f1, f2, f3⟩ := Tm.fe_lam y c vs p
    refine ⟨by omega, by rw [ep2, eu], ?_, ?_⟩
    · rw [ep2, e2, f2, eF, eS, f1]
      rfl
    · rw [ep2, e2, f3, eS, f1]
      rfl
  · obtain ⟨d, d2, r, f1, f2, f3⟩ := Tm.fe_app f c vs p
    refine ⟨by omega, by rw [ep2, eu], ?_, ?_⟩
    · rw [ep2, e2, f2, eF, eS, f1]
      rfl
    · rw [ep2, e2, f3, eS, f1]
      rfl
theorem set_rep (p e : Nat) (fo : List Nat) : ((List.replicate (p + 1) 0 ++ fo).map iV).set p (iV e) = (List.replicate p 0 ++ e :: fo).map iV := by
  rw [← List.map_set, List.replicate_succ', List.append_assoc, List.set_append_right _ _ (by simp)]
  simp
/-- one pop of the reversed stack -/
theorem pop_rev {st : List Nat} {j : Nat} (h : j < st.length) : ∃ e, st.getD j 0 = e ∧ (((st.drop j).reverse.map iV)[((st.drop j).reverse.map iV).length - 1]? = some (iV e)) ∧ ((st.drop j).reverse.map iV).dropLast = (st.drop (j + 1)).reverse.map iV := by
  refine ⟨st[j], by simp [List.getD, h], ?_, ?_⟩
  · rw [List.drop_eq_getElem_cons h, List.reverse_cons, List.map_append]
    simp
  · rw [List.drop_eq_getElem_cons h, List.reverse_cons, List.map_append]
    simp
abbrev st_raw_ends : Stmt := topS 14
abbrev nm_raw_ends : List Str := ["words", "found", "whole", "place", "end", "turn"]
theorem sc_raw_ends : FnScope nm_raw_ends ["words"] (C8.fnScope st_raw_ends) := ⟨rfl, rfl, rfl, by decide +kernel, rfl, by decide +kernel, by decide +kernel⟩
theorem ok_raw_ends (D : Dn K mg "raw_ends" st_raw_ends ["words"]) (T : Bt mg) (c_asked_by : C8.Cal P w K mg base 2 "asked_by" spAsked []) : C8.Cal P w K mg base 3 "raw_ends" (spEnds K) [] := by
  obtain ⟨f, fd, F, b⟩ := D.ex
  have nd := sc_raw_ends.nd
  refine C8.cal0 F b .nil sc_raw_ends (fun vs H Q E h => ?_) (fun cdv A outer s H vs Q E hr h => ?_)
  · obtain ⟨a, t, rfl, _⟩ := h
    rfl
  · obtain ⟨a, t, rfl, hp, hz, hw, q⟩ := h
    refine ⟨_, (pss_cons (ps_set (i := 1) nd rfl (.inl rfl) (pe_op op_rep (pe_lst (pa_cons pe_int pa_nil)) (pe_callB call_len_seq rfl T.z_len PySem.boot_len (pa_cons (pv 0) pa_nil))))
      (pss_cons (ps_set (i := 2) nd rfl (.inl rfl) (pe_lst pa_nil))
      (pss_cons (ps_for PassesOwn.never rfl (pi_range3 rfl T.z_range (pa_cons (pe_op op_sub (pe_callB call_len_seq rfl T.z_len PySem.boot_len (pa_cons (pv 0) pa_nil)) pe_int) (pa_cons (pe_un un_neg pe_int) (pa_cons (pe_un un_neg pe_int) pa_nil)))) (pg_name (i := 3) nd rfl (.inl rfl))
        (pss_cons (ps_set (i := 4) nd rfl (.inl rfl) (pe_op op_add (pv 3) pe_int))
          (pss_cons (ps_for PassesOwn.never rfl (pi_range1 rfl T.z_range (pa_cons (C8.pe_c c_asked_by hr (by decide) rfl (pa_cons (pe_ix ix_tup (pv 0) (pv 3) (fun _ _ => rfl)) pa_nil)) pa_nil)) (pg_name (i := 5) nd rfl (.inl rfl))
            (pss_one (ps_set (i := 4) nd rfl (.inl rfl) (pe_bm0 PySem.F.plainAttrs_list PySem.F.slot_list_pop PySem.F.type_list_pop mt_pop (pv 2)))))
          (pss_cons (ps_asg (pv 4) (pg_sub (pv 1) (pv 3) set_list))
          (pss_one (ps_expr (pe_bm PySem.F.plainAttrs_list PySem.F.slot_list_append PySem.F.type_list_append mt_append (pv 2) (pa_cons (pv 4) pa_nil))))))))
      (pss_one (ps_ret (pe_callTy call_tuple_of rfl T.z_tuple (by decide +kernel) (pa_cons (pv 1) pa_nil))))))), ?_⟩
    have hl : (t.ws.map eV).length = t.sz := by rw [List.length_map, Tm.ws_len]
    -- [0] * len(words); []
    refine ⟨szl (by decide), fun z nz => ⟨_, rfl, a, _, rfl, .inr ((same_new nz _).tupd hw), z, _, _, rfl, rfl, upd_same, by omega, by omega, szl (by rw [hl, Int.toNat_natCast]; show 1 * t.sz ≤ 100000; omega), fun l1 n1 => ⟨Nat.zero_le _, fun l2 n2 => ?_⟩⟩⟩
    have s1 : Same H (upd (upd H z (.lst [.int 0])) l1 (.lst (List.replicate (((t.ws.map eV).length : Int)).toNat [V.int 0]).flatten)) := (same_new nz _).newd n1
    have s2 := s1.newd (o := .lst []) n2
    have ne : l1 ≠ l2 := fun e => by
      rw [← e, upd_same] at n2
      cases n2
    have f1 : H l1 = none := (same_new nz _).free n1
    have f2 : H l2 = none := s1.free n2
    refine ⟨_, rfl, a, _, rfl, .inr (s2.tupd hw), _, _, rfl, rfl, 1, rfl, 1, rfl, _, _, _, _, rfl, RgC.neg (by omega) (by omega) (by decide) (by decide), ?_⟩
    have en : (((t.ws.map eV).length : Int) - 1 - -1).toNat = t.sz := by omega
    rw [en]
    refine for_rangeC (lo := ((t.ws.map eV).length : Int) - 1) (c := -1) (n := t.sz) (fun i σ H' => ∃ (pl e tn : Option V) (fo st : List Nat) (ts : List (Tm.T Nm)), σ = [some (.ref a), some (.ref l1), some (.ref l2), pl, e, tn] ∧ Same H H' ∧
      H' l1 = some (.lst ((List.replicate (t.sz - i) 0 ++ fo).map iV)) ∧ H' l2 = some (.lst (st.reverse.map iV)) ∧ EndsAt t i fo st ts)
      ⟨none, none, none, [], [], [], rfl, s2, ?_, ?_, EndsAt.start t⟩ (fun i σ H' hi pv => ?_) (fun σ H' pv => ?_)
    · rw [upd_ne ne, upd_same, flat_rep]
      simp [hl, iV]
    · exact upd_same
    · obtain ⟨pl, e0, tn, fo, st, ts, rfl, s3, h1, h2, ea⟩ := pv
      obtain ⟨p, k, e, us, ep, hk, ha, ee, ea'⟩ := ea.turn hi
      have epi : ((t.ws.map eV).length : Int) - 1 + (i : Nat) * -1 = (p : Nat) := by omega
      rw [epi]
      -- end = place + 1
      refine ⟨_, rfl, _, _, rfl, rfl, ?_⟩
      -- for turn in range(asked_by(words[place]))
      refine ⟨_, rfl, _, rfl, a, _, _, _, rfl, rfl, s3.tupd hw, atI_nat (at_map hk), k, hp.at hk, rfl, _, rfl, by omega, ?_, ?_⟩
      · cases k <;> (simp only [asks]; decide)
      rw [Int.toNat_natCast]
      refine for_range (lo := 0) (n := asks k) (fun j σ H'' => ∃ (e1 : Int) (tn : Option V), σ = [some (.ref a), some (.ref l1), some (.ref l2), some (.int (p : Nat)), some (.int e1), tn] ∧ Same H H'' ∧
        H'' l1 = some (.lst ((List.replicate (t.sz - i) 0 ++ fo).map iV)) ∧ H'' l2 = some (.lst ((st.drop j).reverse.map iV)) ∧ e1 = ((if j = 0 then p + 1 else st.getD (j - 1) 0 : Nat) : Int))
        ⟨_, _, rfl, s3, h1, h2, rfl⟩ (fun j σ H'' hj pv => ?_) (fun σ H'' pv => ?_)
      · obtain ⟨e1, tn, rfl, s4, g1, g2, ge⟩ := pv
        obtain ⟨y, y1, y2, y3⟩ := pop_rev (st := st) (j := j) (by omega)
        refine ⟨_, rfl, .inl ⟨rfl, _, .inl (.inl g2)⟩, l2, _, _, rfl, rfl, g2, y2, ?_⟩
        refine ⟨_, _, rfl, Same.mutd s4 f2, by rw [upd_ne ne]; exact g1, by rw [upd_same, y3], ?_⟩
        rw [if_neg (Nat.succ_ne_zero j), Nat.add_sub_cancel, y1]
      · obtain ⟨e1, tn, rfl, s4, g1, g2, ge⟩ := pv
        have ge2 : e1 = (e : Nat) := by rw [ge, ee]
        subst ge2
        -- found[place] = end; whole.append(end)
        have esz : t.sz - i = p + 1 := by omega
        refine ⟨_, rfl, _, rfl, _, rfl, l1, _, _, p, rfl, rfl, g1, ?_, ?_⟩
        · unfold ixN
          rw [if_pos (by omega), if_pos (by simp; omega), Int.toNat_natCast]
        have s5 : Same H (upd H'' l1 (.lst (((List.replicate (t.sz - i) 0 ++ fo).map iV).set p (.int (e : Nat))))) := Same.mutd s4 f1
        have g3 : (upd H'' l1 (.lst (((List.replicate (t.sz - i) 0 ++ fo).map iV).set p (.int (e : Nat))))) l2 = some (.lst ((st.drop (asks k)).reverse.map iV)) := by
          rw [upd_ne ne.symm]
          exact g2
        have hst : (st.drop (asks k)).length ≤ 1000 := by
          have := congrArg List.length ea.st
          rw [Tm.fs_len] at this
          have hts : ts.length ≤ 1000 := by
            have z1 : ∀ us : List (Tm.T Nm), us.length ≤ (Tm.fw us).length := by
              intro us
              induction us with
              | nil => exact Nat.le_refl _
              | cons v r ih =>
                have := Tm.sz_pos v
                simp only [Tm.fw, List.length_append, List.length_cons, Tm.ws_len]
                omega
            have z2 := z1 ts
            rw [← ea.wd, List.length_drop, Tm.ws_len] at z2
            omega
          rw [List.length_drop]
          omega
        refine ⟨_, rfl, .inl ⟨rfl, _, .inl (.inl g3)⟩, _, rfl, l2, _, _, rfl, rfl, g3, szt (by rw [List.length_map, List.length_reverse]; omega), ?_⟩
        refine ⟨_, _, _, _, _, _, rfl, Same.mutd s5 f2, ?_, ?_, ea'⟩
        · rw [upd_ne ne, upd_same, esz]
          have := set_rep p e fo
          unfold iV at this ⊢
          rw [this, show t.sz - (i + 1) = p by omega]
        · rw [upd_same, List.reverse_cons, List.map_append]
          rfl
    · obtain ⟨pl, e0, tn, fo, st, ts, rfl, s3, h1, h2, ea⟩ := pv
      have e := ea.stop
      rw [Nat.sub_self, List.replicate_zero, List.nil_append, e] at h1
      exact ⟨_, rfl, l1, _, rfl, .inl ⟨.inl (.inl h1), fun l nl => q l _ (s3.newd nl) (.inl (.inl upd_same))⟩⟩
end Ok
set_option maxRecDepth 100000
set_option maxHeartbeats 4000000
/-! Uses, the last judge, the classes, steps' places. -/
namespace Ok
open PySem PySem.Spec PyProof.Rows L2 HT
open Tm (Tk T Good)
variable {P : Program} {w : World} {K : PySem.W.Frag} {mg : Str → Option Value} {base : Heap}
theorem walk_enT {a : Addr} {xs : List V} : Walk (ItE K a) xs.length (fun H => SqT K H a xs) (YPair (fun i => some (.int (i : Nat))) (fun i => xs[i]?)) := by
  refine ⟨fun i _ hi q => ⟨xs, xs[i], q, by simp [hi]⟩, fun _ q => ⟨xs, q, rfl⟩, fun i H v H' _ q y => ?_⟩
  obtain ⟨T, x, h1, h2, h3, h4⟩ := y
  exact ⟨T, .int (i : Nat), x, h1, h2, h3, rfl, h4 xs q⟩
/-- a dict comprehension over a walk -/
theorem dc_it {J : It} {n : Nat} {G : Hp → Prop} {Y : Nat → Hp → V → Hp → Prop} (wk : Walk J n G Y) {g : TG} {tt : TT} {tk tv : TE} {vs : List Nat} {σ : L2.St} {H1 : Hp} {D : Addr} {Qd : Hp → Prop} (Pv : Nat → Hp → Prop) (h0 : Pv 0 (upd H1 D (.dK []))) (hG : ∀ i H, i ≤ n → Pv i H → G H)
    (hs : ∀ i x H H', i < n → Pv i H → Y i H x H' → g x (wipe σ vs) H' fun σ2 H2 => wipe σ2 vs = wipe σ vs ∧ tt σ2 H2 fun b H3 =>
      if b = true then tk σ2 H3 fun y H4 => tv σ2 H4 fun z H5 => ∃ kvs k, y = kV k ∧ H5 D = some (.dK kvs) ∧ kvs.length < sizeLine ∧ Pv (i + 1) (upd H5 D (.dK (putK kvs k z))) else Pv (i + 1) H3) (hd : ∀ H, Pv n H → Qd H) :
    ∃ W : Nat → Nat → Hp → Prop, (∃ m, W 0 m (upd H1 D (.dK []))) ∧ ∀ i m H, W i m H →
      (J.stop i H ∧ Qd H) ∨ (J.go i H ∧ ∃ Nx : Hp → Prop, (∀ H', Nx H' → ∃ m', m' < m ∧ W (i + 1) m' H') ∧ ∀ x H', J.yld i H x H' → g x (wipe σ vs) H' fun σ2 H2 => wipe σ2 vs = wipe σ vs ∧ tt σ2 H2 fun b H3 =>
        if b = true then tk σ2 H3 fun y H4 => tv σ2 H4 fun z H5 => ∃ kvs k, y = kV k ∧ H5 D = some (.dK kvs) ∧ kvs.length < sizeLine ∧ Nx (upd H5 D (.dK (putK kvs k z))) else Nx H3) := by
  refine ⟨fun i m H => m = n - i ∧ i ≤ n ∧ Pv i H, ⟨n, by simp, Nat.zero_le _, h0⟩, ?_⟩
  rintro i m H ⟨rfl, hi, p⟩
  have q := hG i H hi p
  by_cases hlt : i < n
  · exact .inr ⟨wk.goes i H hlt q, Pv (i + 1), fun H' p' => ⟨n - (i + 1), by omega, rfl, hlt, p'⟩, fun x H' y => hs i x H H' hlt p (wk.yields i H x H' hlt q y)⟩
  · have e : i = n := by omega
    subst e
    exact .inl ⟨wk.stops H q, hd H p⟩
/-! ### uses -/
def UsesOk (t : T Nm) (n : Nat) (kvs : List (Key × V)) : Prop := ∀ j x, j < n → t.ws[j]? = some (.u x) → valV kvs (Sum.inr (SX.S x) : Key) = some (.int (j : Nat))
def spUses (K : PySem.W.Frag) : Sp := fun vs H Q _ => ∃ a t, vs = [.ref a] ∧ Pg t ∧ t.sz ≤ 1000 ∧ Wds K H a t ∧ ∀ d kvs H', Same H H' → H' d = some (.dK kvs) → UsesOk t t.sz kvs → Q (.ref d) H'
abbrev st_uses : Stmt := topS 15
abbrev nm_uses : List Str := ["words", "place", "word"]
theorem sc_uses : FnScope nm_uses ["words"] (C8.fnScope st_uses) := ⟨rfl, rfl, rfl, by decide +kernel, rfl, by decide +kernel, by decide +kernel⟩
theorem ok_uses (D : Dn K mg "uses" st_uses ["words"]) (T : Bt mg) (c_is_give : C8.Cal P w K mg base 1 "is_give" spIsGive []) (c_is_take : C8.Cal P w K mg base 1 "is_take" spIsTake []) : C8.Cal P w K mg base 2 "uses" (spUses K) [] := by
  obtain ⟨f, fd, F, b⟩ := D.ex
  have nd := sc_uses.nd
  refine C8.cal0 F b .nil sc_uses (fun vs H Q E h => ?_) (fun cdv A outer s H vs Q E hr h => ?_)
  · obtain ⟨a, t, rfl, _⟩ := h
    rfl
  · obtain ⟨a, t, rfl, hp, hz, hw, q⟩ := h
    refine ⟨_, (pss_one (ps_ret (pe_dc (g := gTup K 2 (gCons (gName 1) (gCons (gName 2) gNil))) (own := [("place", 1), ("word", 2)]) rfl nd (pi_enT rfl T.z_enumerate (pa_cons (pv 0) pa_nil)) (blkOk_by (own := [("place", 1), ("word", 2)]) (N := nm_uses) (sc := C8.fnScope st_uses) (by decide +kernel)) (fun _ _ _ _ _ => (pg_tup rfl (pgs_cons (pg_name (i := 1) nd rfl (.inl rfl) (.inr rfl)) (pgs_cons (pg_name (i := 2) nd rfl (.inl rfl) (.inr rfl)) pgs_nil)))) (fun _ _ _ _ _ => pts_one (PW.pt (pw_and (pt_not (pt_val (C8.pe_c c_is_give hr (by decide) rfl (pa_cons (pv 2) pa_nil)))) (pw_and1 (pt_not (pt_val (C8.pe_c c_is_take hr (by decide) rfl (pa_cons (pv 2) pa_nil)))))))) (fun _ _ _ _ _ => (pv 2)) (fun _ _ _ _ _ => (pv 1))))), ?_⟩
    have hl : (t.ws.map eV).length = t.sz := by rw [List.length_map, Tm.ws_len]
    refine ⟨_, rfl, a, _, rfl, hw, fun D nD => dc_it (walk_enT (xs := t.ws.map eV)) (fun i H' => ∃ kvs, Same H H' ∧ H' D = some (.dK kvs) ∧ kvs.length ≤ i ∧ UsesOk t i kvs)
      ⟨[], same_new nD _, upd_same, Nat.le_refl _, fun j x h => absurd h (Nat.not_lt_zero _)⟩ (fun i H' _ pv => ?_) (fun i x H1 H2 hi pv hy => ?_) (fun H' pv => ?_)⟩
    · obtain ⟨kvs, s1, _⟩ := pv
      exact s1.tupd hw
    · obtain ⟨kvs, s1, hd, hn, hu⟩ := pv
      obtain ⟨T', x1, x2, rfl, nT, rfl, e1, e2⟩ := hy
      obtain ⟨k, hk, rfl⟩ := map_at e2
      have e1 : V.int (i : Nat) = x1 := Option.some.inj e1
      subst e1
      have s2 : Same H1 (upd H1 T' (.tup [.int (i : Nat), eV k])) := same_new nT _
      refine ⟨T', _, rfl, .inl (.inl upd_same), rfl, _, _, rfl, _, _, rfl, rfl, rfl, ?_⟩
      refine ⟨_, rfl, k, hp.at hk, rfl, _, rfl, ?_⟩
      have skip : (∀ x, k ≠ .u x) → ∃ kvs, Same H (upd H1 T' (.tup [.int (i : Nat), eV k])) ∧ (upd H1 T' (.tup [.int (i : Nat), eV k])) D = some (.dK kvs) ∧ kvs.length ≤ i + 1 ∧ UsesOk t (i + 1) kvs := by
        intro hne
        refine ⟨kvs, s1.trans s2, s2 _ _ hd, by omega, fun j x hj hjx => ?_⟩
        by_cases e : j = i
        · subst e
          rw [hk] at hjx
          exact absurd (Option.some.inj hjx) (hne x)
        · exact hu j x (by omega) hjx
      cases k with
      | g => exact iteF (iteF (skip fun x z => nomatch z))
      | t y => exact iteT ⟨_, rfl, .t y, hp.at hk, rfl, _, rfl, iteF (skip fun x z => nomatch z)⟩
      | u y =>
        refine iteT ⟨_, rfl, .u y, hp.at hk, rfl, _, rfl, iteT ⟨_, rfl, _, rfl, kvs, Sum.inr (SX.S y), rfl, s2 _ _ hd, szt (by omega), ?_⟩⟩
        refine ⟨_, Same.mutd (s1.trans s2) nD, upd_same, ?_, fun j x hj hjx => ?_⟩
        · have := length_putK kvs (Sum.inr (SX.S y) : Key) (V.int (i : Nat))
          omega
        · rw [valV_put]
          by_cases e : j = i
          · subst e
            rw [hk] at hjx
            cases hjx
            rw [if_pos rfl]
          · have hne : (Sum.inr (SX.S x) : Key) ≠ Sum.inr (SX.S y) := fun z => by
              have := SX.S_inj (Sum.inr.inj z)
              subst this
              exact e (hp.g.once (w := .u x) (fun z => nomatch z) hjx hk)
            rw [if_neg hne]
            exact hu j x (by omega) hjx
    · obtain ⟨kvs, s1, hd, hn, hu⟩ := pv
      rw [hl] at hu
      exact q D kvs H' s1 hd hu
theorem map_iV {l : List Nat} {i e : Nat} (h : l[i]? = some e) : (l.map iV)[i]? = some (.int (e : Nat)) := by
  rw [List.getElem?_map, h]
  rfl
abbrev st_wrong_take : Stmt := topS 16
abbrev nm_wrong_take : List Str := ["words", "ends", "there", "place", "word"]
theorem sc_wrong_take : FnScope nm_wrong_take ["words"] (C8.fnScope st_wrong_take) := ⟨rfl, rfl, rfl, by decide +kernel, rfl, by decide +kernel, by decide +kernel⟩
theorem ok_wrong_take (D : Dn K mg "wrong_take" st_wrong_take ["words"]) (T : Bt mg) (c_raw_ends : C8.Cal P w K mg base 3 "raw_ends" (spEnds K) []) (c_uses : C8.Cal P w K mg base 2 "uses" (spUses K) []) (c_is_take : C8.Cal P w K mg base 1 "is_take" spIsTake []) (c_name_of : C8.Cal P w K mg base 2 "name_of" spNameOf []) :
    C8.Cal P w K mg base 4 "wrong_take" (spFine K) [] := by
  obtain ⟨f, fd, F, b⟩ := D.ex
  have nd := sc_wrong_take.nd
  refine C8.cal0 F b .nil sc_wrong_take (fun vs H Q E h => ?_) (fun cdv A outer s H vs Q E hr h => ?_)
  · obtain ⟨a, t, rfl, _⟩ := h
    rfl
  · obtain ⟨a, t, rfl, hp, hz, hw, q⟩ := h
    have hu := hu_of hr
    refine ⟨_, (pss_cons (ps_set (i := 1) nd rfl (.inl rfl) (C8.pe_c c_raw_ends hr (by decide) rfl (pa_cons (pv 0) pa_nil)))
      (pss_cons (ps_set (i := 2) nd rfl (.inl rfl) (C8.pe_c c_uses hr (by decide) rfl (pa_cons (pv 0) pa_nil)))
      (pss_cons (ps_for PassesOwn.never rfl (pi_enT rfl T.z_enumerate (pa_cons (pv 0) pa_nil)) (pg_tup rfl (pgs_cons (pg_name (i := 3) nd rfl (.inl rfl)) (pgs_cons (pg_name (i := 4) nd rfl (.inl rfl)) pgs_nil)))
        (pss_one (ps_if (PW.pt (pw_and (pt_val (C8.pe_c c_is_take hr (by decide) rfl (pa_cons (pv 4) pa_nil))) (pw_and1 (pt_not (pt_chain op_lt op_lt (pv 3) (pe_dget2 hu (pv 2) (C8.pe_c c_name_of hr (by decide) rfl (pa_cons (pv 4) pa_nil)) (pe_un un_neg pe_int) ⟨rfl, rfl, rfl, rfl⟩) (pe_ix ix_tup (pv 1) (pv 3) (fun _ _ => rfl)))))))
            (pss_one (ps_ret (pv 3)))
            pss_nil)))
      (pss_one (ps_ret pe_non))))), ?_⟩
    refine ⟨_, rfl, a, t, rfl, hp, hz, hw, fun e H1 s1 he => ⟨_, rfl, a, t, rfl, hp, hz, hw.same s1, fun d kvs H2 s2 hd ho => ?_⟩⟩
    refine ⟨_, rfl, a, _, rfl, s2.tupd (s1.tupd hw), for_en (xs := t.ws.map eV) (fun i σ H' => ∃ (p v : Option V), σ = [some (.ref a), some (.ref e), some (.ref d), p, v] ∧ Same H2 H') ⟨none, none, rfl, Same.refl _⟩ (fun i σ H' _ pv => ?_) (fun i x σ H3 H4 hx pv s4 => ?_) (fun σ H' pv => ?_)⟩
    · obtain ⟨_, _, _, s3⟩ := pv
      exact s3.tupd (s2.tupd (s1.tupd hw))
    · obtain ⟨p, v, rfl, s3⟩ := pv
      obtain ⟨k, hk, rfl⟩ := map_at hx
      have s5 := s3.trans s4
      refine ⟨_, rfl, k, hp.at hk, rfl, _, rfl, ?_⟩
      cases k with
      | g => exact iteF (iteF ⟨_, _, rfl, s5⟩)
      | u y => exact iteF (iteF ⟨_, _, rfl, s5⟩)
      | t y =>
        obtain ⟨j, en, h1, h2, h3, h4⟩ := Tm.take_in hp.g.ok hk
        have hj : j < t.sz := by
          rw [← Tm.ws_len]
          exact (List.getElem?_eq_some_iff.mp h1).1
        refine iteT ⟨_, rfl, _, rfl, d, rfl, .inl ⟨kvs, .inl (s5 _ _ hd)⟩, _, rfl, .t y, hp.at hk, rfl, 1, rfl, _, DGet.k (k := Sum.inr (SX.S y)) (s5 _ _ hd), (i : Nat), (j : Nat), rfl, ?_, true, ?_, iteT ?_⟩
        · rw [ho j y hj h1]
          rfl
        · show V.bl (decide ((i : Int) < (j : Int))) = V.bl true
          rw [decide_eq_true (by omega)]
        · refine ⟨_, rfl, _, rfl, e, _, _, _, rfl, rfl, s5.tupd (s2.tupd he), atI_nat (map_iV h2), (j : Nat), (en : Nat), ?_, rfl, true, ?_, iteF ⟨_, _, rfl, s5⟩⟩
          · rw [ho j y hj h1]
            rfl
          · show V.bl (decide ((j : Int) < (en : Int))) = V.bl true
            rw [decide_eq_true (by omega)]
    · obtain ⟨p, v, rfl, s3⟩ := pv
      exact q H' (s1.trans (s2.trans s3))
end Ok
set_option maxRecDepth 100000
set_option maxHeartbeats 4000000
/-! The judge of all, the two classes, places of steps. -/
namespace Ok
open PySem PySem.Spec PyProof.Rows L2 HT
open Tm (Tk T Good)
variable {P : Program} {w : World} {K : PySem.W.Frag} {mg : Str → Option Value} {base : Heap}
abbrev st_fault_in : Stmt := topS 17
abbrev nm_fault_in : List Str := ["words", "place", "word", "wrong", "found"]
theorem sc_fault_in : FnScope nm_fault_in ["words"] (C8.fnScope st_fault_in) := ⟨rfl, rfl, rfl, by decide +kernel, rfl, by decide +kernel, by decide +kernel⟩
theorem ok_fault_in (D : Dn K mg "fault_in" st_fault_in ["words"]) (T : Bt mg) (c_is_word : C8.Cal P w K mg base 2 "is_word" spIsWord []) (c1 : C8.Cal P w K mg base 3 "wrong_end" (spFine K) []) (c2 : C8.Cal P w K mg base 2 "wrong_second" (spFine K) []) (c3 : C8.Cal P w K mg base 4 "wrong_take" (spFine K) []) :
    C8.Cal P w K mg base 5 "fault_in" (spFine K) [] := by
  obtain ⟨f, fd, F, b⟩ := D.ex
  have nd := sc_fault_in.nd
  obtain ⟨f1, d1, p1, ds1, F1, m1, k1, b1, v1⟩ := c1.ex
  obtain ⟨f2, d2, p2, ds2, F2, m2, k2, b2, v2⟩ := c2.ex
  obtain ⟨f3, d3, p3, ds3, F3, m3, k3, b3, v3⟩ := c3.ex
  cases v1
  cases v2
  cases v3
  have g_wrong_end : ∃ u, mg "wrong_end" = some u ∧ RelV (.ref f1) u := ⟨_, m1, rfl⟩
  have g_wrong_second : ∃ u, mg "wrong_second" = some u ∧ RelV (.ref f2) u := ⟨_, m2, rfl⟩
  have g_wrong_take : ∃ u, mg "wrong_take" = some u ∧ RelV (.ref f3) u := ⟨_, m3, rfl⟩
  have hd_wrong : ∀ f sp, (if f = f1 ∨ f = f2 ∨ f = f3 then some (spFine K) else none) = some sp → Held P w K mg base 4 f sp := by
    intro f sp h
    by_cases q : f = f1 ∨ f = f2 ∨ f = f3
    · rw [if_pos q] at h
      cases h
      rcases q with rfl | rfl | rfl
      · exact ⟨d1, p1, F1.mono (by decide), k1, b1⟩
      · exact ⟨d2, p2, F2.mono (by decide), k2, b2⟩
      · exact ⟨d3, p3, F3, k3, b3⟩
    · rw [if_neg q] at h
      cases h
  refine C8.cal0 F b .nil sc_fault_in (fun vs H Q E h => ?_) (fun cdv A outer s H vs Q E hr h => ?_)
  · obtain ⟨a, t, rfl, _⟩ := h
    rfl
  · obtain ⟨a, t, rfl, hp, hz, hw, q⟩ := h
    refine ⟨_, (pss_cons (ps_for PassesOwn.never rfl (pi_enT rfl T.z_enumerate (pa_cons (pv 0) pa_nil)) (pg_tup rfl (pgs_cons (pg_name (i := 1) nd rfl (.inl rfl)) (pgs_cons (pg_name (i := 2) nd rfl (.inl rfl)) pgs_nil)))
        (pss_one (ps_if (pt_not (pt_val (C8.pe_c c_is_word hr (by decide) rfl (pa_cons (pv 2) pa_nil))))
            (pss_one (ps_ret (pv 1)))
            pss_nil)))
      (pss_cons (ps_for PassesOwn.never rfl (pi_tup (pe_tup (pa_cons (C8.pe_gc rfl g_wrong_end) (pa_cons (C8.pe_gc rfl g_wrong_second) (pa_cons (C8.pe_gc rfl g_wrong_take) pa_nil))))) (pg_name (i := 3) nd rfl (.inl rfl))
        (pss_cons (ps_set (i := 4) nd rfl (.inl rfl) (pe_callA (i := 3) hd_wrong hr rfl (.inl rfl) (pa_cons (pv 0) pa_nil)))
          (pss_one (ps_if (pt_cmpR op_notN (pv 4) pe_non (nomark _))
            (pss_one (ps_ret (pv 4)))
            pss_nil))))
      (pss_one (ps_ret pe_non)))), ?_⟩
    refine ⟨_, rfl, a, _, rfl, hw, for_en (xs := t.ws.map eV) (fun i σ H' => ∃ (p v : Option V), σ = [some (.ref a), p, v, none, none] ∧ Same H H') ⟨none, none, rfl, Same.refl _⟩ (fun i σ H' _ pv => ?_) (fun i x σ H3 H4 hx pv s4 => ?_) (fun σ H' pv => ?_)⟩
    · obtain ⟨_, _, _, s3⟩ := pv
      exact s3.tupd hw
    · obtain ⟨p, v, rfl, s3⟩ := pv
      obtain ⟨k, hk, rfl⟩ := map_at hx
      exact ⟨_, rfl, k, hp.at hk, rfl, fun H5 s5 => ⟨_, rfl, iteF ⟨_, _, rfl, s3.trans (s4.trans s5)⟩⟩⟩
    · obtain ⟨p, v, rfl, s3⟩ := pv
      refine ⟨szl (by show 3 ≤ 100000; decide), fun tp ntp => ?_⟩
      have s4 := s3.newd (o := .tup [.ref f1, .ref f2, .ref f3]) ntp
      refine ⟨tp, rfl, ⟨_, .inl (.inl upd_same)⟩, for_tup (xs := [.ref f1, .ref f2, .ref f3]) (fun i σ H'' => ∃ (y v' : Option V), σ = [some (.ref a), p, v, y, v'] ∧ Same H H'' ∧ H'' tp = some (.tup [.ref f1, .ref f2, .ref f3])) ⟨none, none, rfl, s4, upd_same⟩ (fun i σ H'' _ pv => ?_) (fun i x σ H5 hx pv => ?_) (fun σ H'' pv => ?_)⟩
      · obtain ⟨_, _, _, _, h⟩ := pv
        exact .inl (.inl h)
      · obtain ⟨y, v', rfl, s5, ht⟩ := pv
        have hx' : x = .ref f1 ∨ x = .ref f2 ∨ x = .ref f3 := by
          have := List.mem_of_getElem? hx
          simpa using this
        obtain ⟨fx, rfl, hfx⟩ : ∃ fx, x = .ref fx ∧ (fx = f1 ∨ fx = f2 ∨ fx = f3) := by
          rcases hx' with e | e | e
          · exact ⟨f1, e, .inl rfl⟩
          · exact ⟨f2, e, .inr (.inl rfl)⟩
          · exact ⟨f3, e, .inr (.inr rfl)⟩
        refine ⟨fx, spFine K, rfl, if_pos hfx, _, rfl, a, t, rfl, hp, hz, hw.same s5, fun H6 s6 => ?_⟩
        exact ⟨_, rfl, rfl, false, rfl, iteF ⟨_, _, rfl, s5.trans s6, s6 _ _ ht⟩⟩
      · obtain ⟨y, v', rfl, s5, ht⟩ := pv
        exact q H'' s5
/-! ### classes -/
/-- the two classes as the top has made them -/
structure Ct (K : PySem.W.Frag) (mg : Str → Option Value) (CP CR : Addr) : Prop where
  clP : Cls K CP
  clR : Cls K CR
  nP : NoAttr K CP "words"
  nR : NoAttr K CR "words"
  gP : mg "Program" = some (.ref CP)
  gR : mg "RawProgram" = some (.ref CR)
  ha : PySem.W.findIn K (.ref CR) "__class__" = some (some (.builtin "object.__class__"))
  hn : PySem.W.specialIn K (.builtin "object.__class__") "__get__" = some (some (.builtin "getset_descriptor.__get__"))
  htk : PySem.W.takesIn K (.builtin "object.__class__") = some true
  hm : PySem.W.mroIn K CR (.type "object") = some true
  me : PySem.W.kitOne K (.ref CR) (.ref CP) = some true
theorem Ct.gProgram {CP CR : Addr} (c : Ct K mg CP CR) : ∃ u, mg "Program" = some u ∧ RelV (.ref CP) u := ⟨_, c.gP, rfl⟩
/-- a class's own __init__ -/
structure Dm (K : PySem.W.Frag) (mg : Str → Option Value) (x qual : Str) (C : Addr) (st : Stmt) (ps : List Str) : Prop where
  ex : ∃ (f : Addr) (fd : FuncData), Mk K C f ∧ mg x = some (.ref C) ∧ C8.Fun K "__init__" qual st f fd ∧ Binds K fd ps []
/-- words are laid on a new instance -/
def spInit (K : PySem.W.Frag) (C : Addr) : Sp := fun vs H Q _ => ∃ x a dx t, vs = [.ref x, .ref a] ∧ H x = some (.ins C dx []) ∧ Pg t ∧ t.sz ≤ 1000 ∧ Wds K H a t ∧ ∀ H1 H', Same H H1 → H' = upd H1 x (.ins C dx [("words", .ref a)]) → Q .non H'
abbrev st_Program_init : Stmt := inClass (topS 18) 0
abbrev nm_Program_init : List Str := ["self", "words", "fault"]
theorem sc_Program_init : FnScope nm_Program_init ["self", "words"] (C8.fnScope st_Program_init) := ⟨rfl, rfl, rfl, by decide +kernel, rfl, by decide +kernel, by decide +kernel⟩
theorem ok_Program {CP CR : Addr} (D : Dm K mg "Program" "Program.__init__" CP st_Program_init ["self", "words"]) (T : Bt mg) (ct : Ct K mg CP CR) (c_fault_in : C8.Cal P w K mg base 5 "fault_in" (spFine K) []) : C8.Mak P w K mg base 6 "Program" CP (spInit K CP) [] := by
  obtain ⟨f, fd, M, hm, F, b⟩ := D.ex
  have nd := sc_Program_init.nd
  refine C8.mak0 M hm F b .nil sc_Program_init (fun vs H Q E h => ?_) (fun cdv A outer s H vs Q E hr h => ?_)
  · obtain ⟨x, a, dx, t, rfl, _⟩ := h
    rfl
  · obtain ⟨x, a, dx, t, rfl, hx, hp, hz, hw, q⟩ := h
    refine ⟨_, (pss_cons (ps_if (PW.pt (pw_or (pt_not (pt_val (pe_callB call_isi rfl T.z_isinstance (by decide +kernel) (pa_cons (pv 1) (pa_cons (pe_bltn (v := .ty "tuple") rfl T.z_tuple (by decide +kernel) rfl) pa_nil))))) (pw_or1 (pt_not (pt_chain op_le op_le pe_int (pe_callB call_len_seq rfl T.z_len PySem.boot_len (pa_cons (pv 1) pa_nil)) (C8.pe_gc rfl T.mw))))))
        (pss_one ps_never)
        pss_nil)
      (pss_cons (ps_set (i := 2) nd rfl (.inl rfl) (C8.pe_c c_fault_in hr (by decide) rfl (pa_cons (pv 1) pa_nil)))
      (pss_cons (ps_if (pt_cmpR op_notN (pv 2) pe_non (nomark _))
        (pss_one ps_never)
        pss_nil)
      (pss_one (ps_fld (pv 0) (pv 1) rfl))))), ?_⟩
    have hl : (t.ws.map eV).length = t.sz := by rw [List.length_map, Tm.ws_len]
    have h0 := Tm.sz_pos t
    refine ⟨_, rfl, _, _, .type "tuple", .type "tuple", true, rfl, .ty _, tup_ty hw, kit_ty (by decide +kernel), true, rfl, iteF ?_⟩
    refine ⟨_, rfl, a, _, rfl, .inr hw, _, _, rfl, rfl, true, ?_, iteT ⟨_, _, rfl, rfl, true, ?_, iteF ?_⟩⟩
    · show V.bl (decide ((1 : Int) ≤ ((t.ws.map eV).length : Int))) = V.bl true
      rw [decide_eq_true (by omega)]
    · show V.bl (decide (((t.ws.map eV).length : Int) ≤ (1000 : Int))) = V.bl true
      rw [decide_eq_true (by omega)]
    · refine ⟨_, rfl, a, t, rfl, hp, hz, hw, fun H1 s1 => ⟨_, rfl, rfl, false, rfl, iteF ?_⟩⟩
      exact ⟨_, rfl, _, rfl, x, CP, dx, [], rfl, s1 _ _ hx, ct.clP, ct.nP, by decide, q H1 _ s1 rfl⟩
abbrev st_RawProgram_init : Stmt := inClass (topS 19) 0
abbrev nm_RawProgram_init : List Str := ["self", "words"]
theorem sc_RawProgram_init : FnScope nm_RawProgram_init ["self", "words"] (C8.fnScope st_RawProgram_init) := ⟨rfl, rfl, rfl, by decide +kernel, rfl, by decide +kernel, by decide +kernel⟩
theorem ok_RawProgram {CP CR : Addr} (D : Dm K mg "RawProgram" "RawProgram.__init__" CR st_RawProgram_init ["self", "words"]) (T : Bt mg) (ct : Ct K mg CP CR) : C8.Mak P w K mg base 1 "RawProgram" CR (spInit K CR) [] := by
  obtain ⟨f, fd, M, hm, F, b⟩ := D.ex
  have nd := sc_RawProgram_init.nd
  refine C8.mak0 M hm F b .nil sc_RawProgram_init (fun vs H Q E h => ?_) (fun cdv A outer s H vs Q E hr h => ?_)
  · obtain ⟨x, a, dx, t, rfl, _⟩ := h
    rfl
  · obtain ⟨x, a, dx, t, rfl, hx, hp, hz, hw, q⟩ := h
    refine ⟨_, (pss_one (ps_fld (pv 0) (pe_callTy call_tuple_of rfl T.z_tuple (by decide +kernel) (pa_cons (pv 1) pa_nil)) rfl)), ?_⟩
    refine ⟨_, rfl, a, _, rfl, .inr ⟨hw, ?_⟩⟩
    exact ⟨_, rfl, x, CR, dx, [], rfl, hx, ct.clR, ct.nR, by decide, q H _ (Same.refl H) rfl⟩
/-- a program object at p: its words are t's -/
def IsP (K : PySem.W.Frag) (CP CR : Addr) (H : Hp) (p : Addr) (t : T Nm) : Prop := ∃ C dx a, (C = CP ∨ C = CR) ∧ H p = some (.ins C dx [("words", .ref a)]) ∧ Wds K H a t
theorem IsP.same {CP CR : Addr} {H H' : Hp} {p : Addr} {t : T Nm} (h : IsP K CP CR H p t) (s : Same H H') : IsP K CP CR H' p t := by
  obtain ⟨C, dx, a, h1, h2, h3⟩ := h
  exact ⟨C, dx, a, h1, s _ _ h2, h3.same s⟩
/-- what a made instance leaves -/
theorem made_same {H H1 : Hp} {x dx C : Addr} {o : HO} (nx : H x = none) (ndx : H dx = none) (s : Same (upd (upd H dx (.own x)) x (.ins C dx [])) H1) : Same H (upd H1 x o) := fun b u e => by
  have h1 : b ≠ x := ne_of_none e nx
  have h2 : b ≠ dx := ne_of_none e ndx
  rw [upd_ne h1]
  refine s b u ?_
  rw [upd_ne h1, upd_ne h2]
  exact e
theorem look_words (a : Addr) : List.lookup ("words" : Str) [(("words" : Str), V.ref a)] = some (V.ref a) := by simp [List.lookup]
abbrev st_givens : Stmt := topS 20
abbrev nm_givens : List Str := ["program", "word"]
theorem sc_givens : FnScope nm_givens ["program"] (C8.fnScope st_givens) := ⟨rfl, rfl, rfl, by decide +kernel, rfl, by decide +kernel, by decide +kernel⟩
def spGivens (K : PySem.W.Frag) (CP CR : Addr) : Sp := fun vs H Q _ => ∃ p t, vs = [.ref p] ∧ Pg t ∧ t.sz ≤ 1000 ∧ IsP K CP CR H p t ∧ ∀ H', Same H H' → Q (.int (t.gv : Nat)) H'
theorem gv_ws : ∀ t : T Nm, (t.ws.filter isG).length = t.gv
  | .var _ => rfl
  | .app f a => by
    have h1 := gv_ws f
    have h2 := gv_ws a
    have : (Tm.T.app f a).ws.filter isG = .g :: (f.ws.filter isG ++ a.ws.filter isG) := by
      show List.filter isG (.g :: (f.ws ++ a.ws)) = _
      rw [List.filter_cons_of_pos (by rfl), List.filter_append]
    rw [this, List.length_cons, List.length_append, h1, h2]
    rfl
  | .lam x b => by
    have : (Tm.T.lam x b).ws.filter isG = b.ws.filter isG := List.filter_cons_of_neg (fun h => nomatch (show false = true from h))
    rw [this]
    exact gv_ws b
theorem ok_givens {CP CR : Addr} (D : Dn K mg "givens" st_givens ["program"]) (T : Bt mg) (ct : Ct K mg CP CR) (c_is_give : C8.Cal P w K mg base 1 "is_give" spIsGive []) : C8.Cal P w K mg base 2 "givens" (spGivens K CP CR) [] := by
  obtain ⟨f, fd, F, b⟩ := D.ex
  have nd := sc_givens.nd
  refine C8.cal0 F b .nil sc_givens (fun vs H Q E h => ?_) (fun cdv A outer s H vs Q E hr h => ?_)
  · obtain ⟨x, t, rfl, _⟩ := h
    rfl
  · obtain ⟨p, t, rfl, hp, hz, ⟨C, dx, a, hC, hx, hw⟩, q⟩ := h
    refine ⟨_, (pss_one (ps_ret (pe_callB call_len_seq rfl T.z_len PySem.boot_len (pa_cons (pe_lc (own := [("word", 1)]) rfl nd (pi_tup (pe_fld (pv 0) rfl)) (blkOk_by (own := [("word", 1)]) (N := nm_givens) (sc := C8.fnScope st_givens) (by decide +kernel)) (fun _ _ _ _ _ => (pg_name (i := 1) nd rfl (.inl rfl) (.inr rfl))) (fun _ _ _ _ _ => pts_one (pt_val (C8.pe_c c_is_give hr (by decide) rfl (pa_cons (pv 1) pa_nil)))) (fun _ _ _ _ _ => (pv 1))) pa_nil)))), ?_⟩
    have clC : Cls K C := by rcases hC with rfl | rfl; exact ct.clP; exact ct.clR
    have nC : NoAttr K C "words" := by rcases hC with rfl | rfl; exact ct.nP; exact ct.nR
    refine ⟨_, rfl, p, C, dx, _, _, rfl, hx, clC, nC, look_words a, a, rfl, ⟨_, hw⟩, fun D nD => lc_it (walk_tup (xs := t.ws.map eV)) (fun i H' => Same H H' ∧ H' D = some (.lst (((t.ws.take i).filter isG).map eV))) ⟨same_new nD _, upd_same⟩ (fun i H' _ pv => pv.1.tupd hw) (fun i y H2 H3 hi pv hy => ?_) (fun H2 pv => ?_)⟩
    · obtain ⟨rfl, hy⟩ := hy
      obtain ⟨s1, h1⟩ := pv
      obtain ⟨k, hk, rfl⟩ := map_at hy
      have ht : t.ws.take (i + 1) = t.ws.take i ++ [k] := by rw [List.take_add_one, hk]; rfl
      refine ⟨rfl, _, rfl, k, hp.at hk, rfl, _, rfl, ?_⟩
      rw [ht, List.filter_append]
      cases e : isG k with
      | true =>
        refine iteT ?_
        have hle : ((t.ws.take i).filter isG).length ≤ 1000 := Nat.le_trans (List.length_filter_le _ _) (Nat.le_trans (List.length_take_le _ _) (by have := hi; rw [List.length_map, Tm.ws_len] at this; omega))
        obtain ⟨g1, g2, g3, g4⟩ := grow (y := eV k) s1 nD h1 (Same.refl _) (by rw [List.length_map]; omega)
        refine ⟨_, rfl, _, g1, g2, g3, ?_⟩
        rw [g4, List.filter_cons_of_pos e, List.map_append]
        rfl
      | false =>
        refine iteF ⟨s1, ?_⟩
        rw [h1, List.filter_cons_of_neg (by rw [e]; exact Bool.false_ne_true), List.filter_nil, List.append_nil]
    · obtain ⟨s1, h1⟩ := pv
      rw [List.length_map, List.take_length] at h1
      refine ⟨D, _, rfl, .inl (.inl (.inl h1)), ?_⟩
      rw [List.length_map, gv_ws]
      exact q H2 s1
end Ok
set_option maxRecDepth 100000
set_option maxHeartbeats 4000000
/-! Steps and rests. -/
namespace Ok
open PySem PySem.Spec PyProof.Rows L2 HT
open Tm (Tk T Good Step Star nf)
variable {P : Program} {w : World} {K : PySem.W.Frag} {mg : Str → Option Value} {base : Heap}
/-! ### places of steps -/
def stepB (ws : List Wd) (p : Nat) : Bool := match ws[p]?, ws[p + 1]? with
  | some .g, some (.t _) => true
  | _, _ => false
def stepsL (ws : List Wd) : List Nat := (List.range (ws.length - 1)).filter (stepB ws)
theorem stepB_iff {ws : List Wd} {p : Nat} : stepB ws p = true ↔ Tm.redex ws p := by
  unfold stepB Tm.redex
  cases e1 : ws[p]? with
  | none => simp
  | some k =>
    cases e2 : ws[p + 1]? with
    | none => cases k <;> simp
    | some j => cases k <;> cases j <;> simp
theorem stepB_of {ws : List Wd} {p : Nat} {k j : Wd} (h1 : ws[p]? = some k) (h2 : ws[p + 1]? = some j) : stepB ws p = (isG k && isTk j) := by
  unfold stepB
  rw [h1, h2]
  cases k <;> cases j <;> rfl
theorem redex_lt {ws : List Wd} {p : Nat} (h : Tm.redex ws p) : p < ws.length - 1 := by
  obtain ⟨_, x, h2⟩ := h
  have := (List.getElem?_eq_some_iff.mp h2).1
  omega
theorem mem_steps {ws : List Wd} {p : Nat} : p ∈ stepsL ws ↔ Tm.redex ws p := by
  unfold stepsL
  rw [List.mem_filter, List.mem_range, stepB_iff]
  exact ⟨fun h => h.2, fun h => ⟨redex_lt h, h⟩⟩
theorem steps_nil {t : T Nm} (h : stepsL t.ws = []) : Tm.Normal t := Tm.normal_iff.mpr fun p r => by
  have := mem_steps.mpr r
  rw [h] at this
  cases this
def spIsStep (K : PySem.W.Frag) : Sp := fun vs H Q _ => ∃ a t, ∃ p : Nat, vs = [.ref a, .int (p : Nat)] ∧ Pg t ∧ Wds K H a t ∧ p + 1 < t.ws.length ∧ Q (.bl (stepB t.ws p)) H
abbrev st_is_step : Stmt := topS 22
abbrev nm_is_step : List Str := ["words", "place"]
theorem sc_is_step : FnScope nm_is_step ["words", "place"] (C8.fnScope st_is_step) := ⟨rfl, rfl, rfl, by decide +kernel, rfl, by decide +kernel, by decide +kernel⟩
theorem ok_is_step (D : Dn K mg "is_step" st_is_step ["words", "place"]) (c_is_give : C8.Cal P w K mg base 1 "is_give" spIsGive []) (c_is_take : C8.Cal P w K mg base 1 "is_take" spIsTake []) : C8.Cal P w K mg base 2 "is_step" (spIsStep K) [] := by
  obtain ⟨f, fd, F, b⟩ := D.ex
  have nd := sc_is_step.nd
  refine C8.cal0 F b .nil sc_is_step (fun vs H Q E h => ?_) (fun cdv A outer s H vs Q E hr h => ?_)
  · obtain ⟨a, t, p, rfl, _⟩ := h
    rfl
  · obtain ⟨a, t, p, rfl, hp, hw, hl, q⟩ := h
    refine ⟨_, (pss_one (ps_ret (pe_and (C8.pe_c c_is_give hr (by decide) rfl (pa_cons (pe_ix ix_tup (pv 0) (pv 1) (fun _ _ => rfl)) pa_nil)) (pe_one (C8.pe_c c_is_take hr (by decide) rfl (pa_cons (pe_ix ix_tup (pv 0) (pe_op op_add (pv 1) pe_int) (fun _ _ => rfl)) pa_nil)))))), ?_⟩
    have e1 : t.ws[p]? = some t.ws[p] := List.getElem?_eq_getElem (by omega)
    have e2 : t.ws[p + 1]? = some t.ws[p + 1] := List.getElem?_eq_getElem hl
    rw [stepB_of e1 e2] at q
    refine ⟨_, rfl, _, rfl, a, _, _, _, rfl, rfl, hw, atI_nat (at_map e1), _, hp.at e1, rfl, _, rfl, ?_⟩
    cases e : isG t.ws[p] with
    | true =>
      rw [e] at q
      refine iteT ⟨_, rfl, _, rfl, _, _, rfl, rfl, a, _, _, _, rfl, rfl, hw, ?_, _, hp.at e2, rfl, q⟩
      exact at_of (j := p + 1) (by omega) (at_map e2)
    | false =>
      rw [e] at q
      exact iteF q
def spRawSteps (K : PySem.W.Frag) : Sp := fun vs H Q _ => ∃ a t, vs = [.ref a] ∧ Pg t ∧ t.sz ≤ 1000 ∧ Wds K H a t ∧ ∀ l H', H l = none → Same H H' → H' l = some (.lst ((stepsL t.ws).map iV)) → Q (.ref l) H'
abbrev st_raw_steps : Stmt := topS 23
abbrev nm_raw_steps : List Str := ["words", "place"]
theorem sc_raw_steps : FnScope nm_raw_steps ["words"] (C8.fnScope st_raw_steps) := ⟨rfl, rfl, rfl, by decide +kernel, rfl, by decide +kernel, by decide +kernel⟩
theorem ok_raw_steps (D : Dn K mg "raw_steps" st_raw_steps ["words"]) (T : Bt mg) (c_is_step : C8.Cal P w K mg base 2 "is_step" (spIsStep K) []) : C8.Cal P w K mg base 3 "raw_steps" (spRawSteps K) [] := by
  obtain ⟨f, fd, F, b⟩ := D.ex
  have nd := sc_raw_steps.nd
  refine C8.cal0 F b .nil sc_raw_steps (fun vs H Q E h => ?_) (fun cdv A outer s H vs Q E hr h => ?_)
  · obtain ⟨a, t, rfl, _⟩ := h
    rfl
  · obtain ⟨a, t, rfl, hp, hz, hw, q⟩ := h
    refine ⟨_, (pss_one (ps_ret (pe_lc (own := [("place", 1)]) rfl nd (pi_range1 rfl T.z_range (pa_cons (pe_op op_sub (pe_callB call_len_seq rfl T.z_len PySem.boot_len (pa_cons (pv 0) pa_nil)) pe_int) pa_nil)) (blkOk_by (own := [("place", 1)]) (N := nm_raw_steps) (sc := C8.fnScope st_raw_steps) (by decide +kernel)) (fun _ _ _ _ _ => (pg_name (i := 1) nd rfl (.inl rfl) (.inr rfl))) (fun _ _ _ _ _ => pts_one (pt_val (C8.pe_c c_is_step hr (by decide) rfl (pa_cons (pv 0) (pa_cons (pv 1) pa_nil))))) (fun _ _ _ _ _ => (pv 1))))), ?_⟩
    have hl : (t.ws.map eV).length = t.ws.length := List.length_map _
    have hl2 := Tm.ws_len t
    have h0 := Tm.sz_pos t
    refine ⟨_, rfl, a, _, rfl, .inr hw, _, _, rfl, rfl, _, rfl, by omega, by omega, fun D nD => ?_⟩
    have en : (((t.ws.map eV).length : Int) - 1).toNat = t.ws.length - 1 := by omega
    rw [en]
    refine lc_it (walk_range (lo := 0) (n := t.ws.length - 1)) (fun i H' => Same H H' ∧ H' D = some (.lst (((List.range i).filter (stepB t.ws)).map iV))) ⟨same_new nD _, upd_same⟩ (fun _ _ _ _ => trivial) (fun i y H2 H3 hi pv hy => ?_) (fun H2 pv => ?_)
    · obtain ⟨rfl, ey⟩ := hy
      obtain ⟨s1, h1⟩ := pv
      have ei : y = V.int (i : Nat) := ey.trans (by show V.int (0 + (i : Nat)) = V.int (i : Nat); rw [Int.zero_add])
      subst ei
      refine ⟨rfl, _, rfl, _, rfl, a, t, i, rfl, hp, hw.same s1, by omega, _, rfl, ?_⟩
      rw [List.range_succ, List.filter_append]
      cases e : stepB t.ws i with
      | true =>
        have hle : ((List.range i).filter (stepB t.ws)).length ≤ 1000 := Nat.le_trans (List.length_filter_le _ _) (by rw [List.length_range]; omega)
        obtain ⟨g1, g2, g3, g4⟩ := grow (y := .int (i : Nat)) s1 nD h1 (Same.refl _) (by rw [List.length_map]; omega)
        refine iteT ⟨_, rfl, _, g1, g2, g3, ?_⟩
        rw [g4, List.filter_cons_of_pos e, List.map_append]
        rfl
      | false =>
        refine iteF ⟨s1, ?_⟩
        rw [h1, List.filter_cons_of_neg (by rw [e]; exact Bool.false_ne_true), List.filter_nil, List.append_nil]
    · exact q D H2 nD pv.1 pv.2
def spSteps (K : PySem.W.Frag) (CP CR : Addr) : Sp := fun vs H Q _ => ∃ p t, vs = [.ref p] ∧ Pg t ∧ t.sz ≤ 1000 ∧ IsP K CP CR H p t ∧ ∀ l H', Same H H' → H' l = some (.tup ((stepsL t.ws).map iV)) → Q (.ref l) H'
abbrev st_steps : Stmt := topS 24
abbrev nm_steps : List Str := ["program"]
theorem sc_steps : FnScope nm_steps ["program"] (C8.fnScope st_steps) := ⟨rfl, rfl, rfl, by decide +kernel, rfl, by decide +kernel, by decide +kernel⟩
theorem ok_steps {CP CR : Addr} (D : Dn K mg "steps" st_steps ["program"]) (T : Bt mg) (ct : Ct K mg CP CR) (c_raw_steps : C8.Cal P w K mg base 3 "raw_steps" (spRawSteps K) []) : C8.Cal P w K mg base 4 "steps" (spSteps K CP CR) [] := by
  obtain ⟨f, fd, F, b⟩ := D.ex
  have nd := sc_steps.nd
  refine C8.cal0 F b .nil sc_steps (fun vs H Q E h => ?_) (fun cdv A outer s H vs Q E hr h => ?_)
  · obtain ⟨x, t, rfl, _⟩ := h
    rfl
  · obtain ⟨p, t, rfl, hp, hz, ⟨C, dx, a, hC, hx, hw⟩, q⟩ := h
    refine ⟨_, (pss_one (ps_ret (pe_callTy call_tuple_of rfl T.z_tuple (by decide +kernel) (pa_cons (C8.pe_c c_raw_steps hr (by decide) rfl (pa_cons (pe_fld (pv 0) rfl) pa_nil)) pa_nil)))), ?_⟩
    have clC : Cls K C := by rcases hC with rfl | rfl; exact ct.clP; exact ct.clR
    have nC : NoAttr K C "words" := by rcases hC with rfl | rfl; exact ct.nP; exact ct.nR
    refine ⟨_, rfl, p, C, dx, _, _, rfl, hx, clC, nC, look_words a, a, t, rfl, hp, hz, hw, fun l H1 _ s1 h1 => ?_⟩
    exact ⟨l, _, rfl, .inl ⟨.inl (.inl h1), fun l2 n2 => q l2 _ (s1.newd n2) upd_same⟩⟩
/-! ### one step -/
theorem cut_to {xs : List V} {p : Nat} (h : p ≤ xs.length) : cutV xs none (some (p : Int)) = xs.take p := by
  unfold cutV
  rw [HT.sIx_nat, HT.sIx_none, Nat.min_eq_left h, List.drop_zero, Nat.sub_zero]
theorem cut_from {xs : List V} {p : Nat} (h : p ≤ xs.length) : cutV xs (some (p : Int)) none = xs.drop p := by
  unfold cutV
  rw [HT.sIx_nat, HT.sIx_none, Nat.min_eq_left h]
  exact List.take_of_length_le (by rw [List.length_drop]; omega)
theorem cut_mid {xs : List V} {i j : Nat} (hi : i ≤ xs.length) (hj : j ≤ xs.length) : cutV xs (some (i : Int)) (some (j : Int)) = (xs.drop i).take (j - i) := by
  unfold cutV
  rw [HT.sIx_nat, HT.sIx_nat, Nat.min_eq_left hi, Nat.min_eq_left hj]
theorem Pg.step {t t' : T Nm} (h : Pg t) (s : Step t t') : Pg t' := by
  obtain ⟨x, _, p1, _⟩ := Tm.step_names s h.g
  exact ⟨h.g.step s, fun y hy => h.nm y (p1.subset (List.mem_cons_of_mem _ hy))⟩
theorem Pg.star {t t' : T Nm} (h : Pg t) (s : Star t t') : Pg t' := ⟨s.good h.g, fun y hy => h.nm y ((Tm.star_names s h.g).1 y hy)⟩
theorem Pg.nf {t : T Nm} (h : Pg t) : Pg (nf t) := h.star (Tm.nf_rest h.g).st
theorem nf_sz {t : T Nm} (h : Pg t) : (nf t).sz ≤ t.sz := (Tm.star_names (Tm.nf_rest h.g).st h.g).2.2.2
def spRawStepped (K : PySem.W.Frag) : Sp := fun vs H Q _ => ∃ a t, ∃ p : Nat, vs = [.ref a, .int (p : Nat)] ∧ Pg t ∧ t.sz ≤ 1000 ∧ Wds K H a t ∧ Tm.redex t.ws p ∧ ∀ t' b H', Step t t' → Same H H' → Wds K H' b t' → (Zd H a → Zd H' b) → Q (.ref b) H'
abbrev st_raw_stepped : Stmt := topS 25
abbrev nm_raw_stepped : List Str := ["words", "place", "found", "body", "behind", "end", "use"]
theorem sc_raw_stepped : FnScope nm_raw_stepped ["words", "place"] (C8.fnScope st_raw_stepped) := ⟨rfl, rfl, rfl, by decide +kernel, rfl, by decide +kernel, by decide +kernel⟩
theorem ok_raw_stepped (D : Dn K mg "raw_stepped" st_raw_stepped ["words", "place"]) (T : Bt mg) (c_raw_ends : C8.Cal P w K mg base 3 "raw_ends" (spEnds K) []) (c_uses : C8.Cal P w K mg base 2 "uses" (spUses K) []) (c_name_of : C8.Cal P w K mg base 2 "name_of" spNameOf []) :
    C8.Cal P w K mg base 4 "raw_stepped" (spRawStepped K) [] := by
  obtain ⟨f, fd, F, b⟩ := D.ex
  have nd := sc_raw_stepped.nd
  refine C8.cal0 F b .nil sc_raw_stepped (fun vs H Q E h => ?_) (fun cdv A outer s H vs Q E hr h => ?_)
  · obtain ⟨a, t, p, rfl, _⟩ := h
    rfl
  · obtain ⟨a, t, p, rfl, hp, hz, hw, hx, q⟩ := h
    have hu := hu_of hr
    obtain ⟨t', x, use, be, en, st, g1, g2, g3, g4, l1, l2, l3, l4, ew⟩ := Tm.step_pieces hp.g hx
    have hl : (t.ws.map eV).length = t.ws.length := List.length_map _
    have hl2 := Tm.ws_len t
    have huse : use < t.sz := by
      rw [← Tm.ws_len]
      exact (List.getElem?_eq_some_iff.mp g2).1
    refine ⟨_, (pss_cons (ps_set (i := 2) nd rfl (.inl rfl) (C8.pe_c c_raw_ends hr (by decide) rfl (pa_cons (pv 0) pa_nil)))
      (pss_cons (ps_set (i := 3) nd rfl (.inl rfl) (pe_op op_add (pv 1) pe_int))
      (pss_cons (ps_set (i := 4) nd rfl (.inl rfl) (pe_ix ix_tup (pv 2) (pv 3) (fun _ _ => rfl)))
      (pss_cons (ps_set (i := 5) nd rfl (.inl rfl) (pe_ix ix_tup (pv 2) (pv 1) (fun _ _ => rfl)))
      (pss_cons (ps_set (i := 6) nd rfl (.inl rfl) (pe_dget hu (C8.pe_c c_uses hr (by decide) rfl (pa_cons (pv 0) pa_nil)) (C8.pe_c c_name_of hr (by decide) rfl (pa_cons (pe_ix ix_tup (pv 0) (pe_op op_add (pv 1) pe_int) (fun _ _ => rfl)) pa_nil)) (fun _ _ => rfl)))
      (pss_one (ps_ret (pe_op op_catZ (pe_op op_catZ (pe_op op_catZ (pe_op op_catZ (pe_slice sl_tupZ (pv 0) po_none (po_some (pv 1))) (pe_slice sl_tupZ (pv 0) (po_some (pv 3)) (po_some (pv 6)))) (pe_slice sl_tupZ (pv 0) (po_some (pv 4)) (po_some (pv 5)))) (pe_slice sl_tupZ (pv 0) (po_some (pe_op op_add (pv 6) pe_int)) (po_some (pv 4)))) (pe_slice sl_tupZ (pv 0) (po_some (pv 5)) po_none))))))))), ?_⟩
    refine ⟨_, rfl, a, t, rfl, hp, hz, hw, fun e H1 s1 he => ?_⟩
    refine ⟨_, rfl, _, _, rfl, rfl, ?_⟩
    refine ⟨_, rfl, _, rfl, e, _, _, .int (be : Nat), rfl, rfl, he, at_of (j := p + 2) (by omega) (map_iV g4), ?_⟩
    refine ⟨_, rfl, _, rfl, e, _, _, .int (en : Nat), rfl, rfl, he, at_of (j := p) (by omega) (map_iV g3), ?_⟩
    refine ⟨_, rfl, a, t, rfl, hp, hz, hw.same s1, fun d kvs H2 s2 hd ho => ?_⟩
    have s12 := s1.trans s2
    refine ⟨_, rfl, _, rfl, _, _, rfl, rfl, a, _, _, _, rfl, rfl, s12.tupd hw, at_of (j := p + 1) (by omega) (at_map g1), .t x, hp.at g1, rfl, d, .int (use : Nat), rfl, ?_, ?_⟩
    · have := DGet.k (k := Sum.inr (SX.S x)) hd
      rw [ho use x huse g2] at this
      exact this
    have W0 : ∀ H3, Same H2 H3 → SqT K H3 a (t.ws.map eV) := fun H3 s3 => s3.tupd (s12.tupd hw)
    -- words[:place]
    refine ⟨_, rfl, _, rfl, _, rfl, a, _, rfl, W0 _ (Same.refl _), fun a1 H3 s3 w1 z1 => ?_⟩
    rw [cut_to (by omega)] at w1
    -- words[body:use]
    refine ⟨_, rfl, _, rfl, _, rfl, _, rfl, _, rfl, a, _, rfl, W0 _ s3, fun a2 H4 s4 w2 z2 => ?_⟩
    rw [show ((p : Nat) : Int) + 2 = ((p + 2 : Nat) : Int) by omega, cut_mid (by omega) (by omega)] at w2
    have s34 := s3.trans s4
    refine ⟨a1, a2, _, _, rfl, rfl, s4.tupd w1, w2, szl (by simp only [List.length_take, List.length_drop]; omega), fun a3 H5 s5 w3 z3 => ?_⟩
    have s35 := s34.trans s5
    -- words[behind:end]
    refine ⟨_, rfl, _, rfl, _, rfl, _, rfl, _, rfl, a, _, rfl, W0 _ s35, fun a4 H6 s6 w4 z4 => ?_⟩
    rw [cut_mid (by omega) (by omega)] at w4
    have s36 := s35.trans s6
    refine ⟨a3, a4, _, _, rfl, rfl, s6.tupd w3, w4, szl (by simp only [List.length_append, List.length_take, List.length_drop]; omega), fun a5 H7 s7 w5 z5 => ?_⟩
    have s37 := s36.trans s7
    -- words[use + 1:behind]
    refine ⟨_, rfl, _, rfl, _, _, rfl, rfl, _, rfl, _, rfl, _, rfl, a, _, rfl, W0 _ s37, fun a6 H8 s8 w6 z6 => ?_⟩
    rw [show ((use : Nat) : Int) + 1 = ((use + 1 : Nat) : Int) by omega, cut_mid (by omega) (by omega)] at w6
    have s38 := s37.trans s8
    refine ⟨a5, a6, _, _, rfl, rfl, s8.tupd w5, w6, szl (by simp only [List.length_append, List.length_take, List.length_drop]; omega), fun a7 H9 s9 w7 z7 => ?_⟩
    have s39 := s38.trans s9
    -- words[end:]
    refine ⟨_, rfl, _, rfl, _, rfl, a, _, rfl, W0 _ s39, fun a8 Ha sa w8 z8 => ?_⟩
    rw [cut_from (by omega)] at w8
    refine ⟨a7, a8, _, _, rfl, rfl, sa.tupd w7, w8, szl (by simp only [List.length_append, List.length_take, List.length_drop]; omega), fun a9 Hb sb w9 z9 => ?_⟩
    refine q t' a9 Hb st (s12.trans (s39.trans (sa.trans sb))) ?_ fun Za => ?_
    rotate_left
    · have A2 := Za.same s12
      have y1 := z1 A2
      have y2 := z2 (A2.same s3)
      have y3 := z3 (y1.same s4) y2
      have y4 := z4 (A2.same s35)
      have y5 := z5 (y3.same s6) y4
      have y6 := z6 (A2.same s37)
      have y7 := z7 (y5.same s8) y6
      have y8 := z8 (A2.same s39)
      exact z9 (y7.same sa) y8
    unfold Wds
    rw [ew]
    simp only [List.map_append, List.map_take, List.map_drop]
    simp only [List.append_assoc] at w9
    exact w9
/-! ### the rest -/
theorem Zd.upd {H : Hp} {a x : Addr} {o u : HO} (h : Zd H a) (hx : H x = some u) (hn : ∀ ob v, HO.frz ob v ≠ u) : Zd (upd H x o) a := by
  obtain ⟨ob, v, h1, h2⟩ := h
  exact ⟨ob, v, by rw [upd_ne (ne_of h1 hx (hn ob v))]; exact h1, h2⟩
def spWay (K : PySem.W.Frag) : Sp := fun vs H Q _ => ∃ a t, vs = [.ref a] ∧ Pg t ∧ t.sz ≤ 1000 ∧ Wds K H a t ∧ ∀ r y b H', Same H H' → H' r = some (.tup [.ref y, .ref b]) → Wds K H' b (nf t) → (Zd H a → Zd H' b) → Q (.ref r) H'
abbrev st_way_to_rest : Stmt := topS 26
abbrev nm_way_to_rest : List Str := ["words", "way", "found"]
theorem sc_way_to_rest : FnScope nm_way_to_rest ["words"] (C8.fnScope st_way_to_rest) := ⟨rfl, rfl, rfl, by decide +kernel, rfl, by decide +kernel, by decide +kernel⟩
theorem ok_way_to_rest (D : Dn K mg "way_to_rest" st_way_to_rest ["words"]) (T : Bt mg) (c_raw_steps : C8.Cal P w K mg base 3 "raw_steps" (spRawSteps K) []) (c_raw_stepped : C8.Cal P w K mg base 4 "raw_stepped" (spRawStepped K) []) : C8.Cal P w K mg base 5 "way_to_rest" (spWay K) [] := by
  obtain ⟨f, fd, F, b⟩ := D.ex
  have nd := sc_way_to_rest.nd
  refine C8.cal0 F b .nil sc_way_to_rest (fun vs H Q E h => ?_) (fun cdv A outer s H vs Q E hr h => ?_)
  · obtain ⟨a, t, rfl, _⟩ := h
    rfl
  · obtain ⟨a, t, rfl, hp, hz, hw, q⟩ := h
    refine ⟨_, (pss_cons (ps_set (i := 1) nd rfl (.inl rfl) (pe_lst pa_nil))
      (pss_cons (ps_set (i := 2) nd rfl (.inl rfl) (C8.pe_c c_raw_steps hr (by decide) rfl (pa_cons (pv 0) pa_nil)))
      (pss_cons (ps_while PassesOwn.never (pt_cmpR op_gt (pe_callB call_len_seq rfl T.z_len PySem.boot_len (pa_cons (pv 2) pa_nil)) pe_int (nomark _))
        (pss_cons (ps_expr (pe_bm PySem.F.plainAttrs_list PySem.F.slot_list_append PySem.F.type_list_append mt_append (pv 1) (pa_cons (pe_ix ix_list (pv 2) pe_int (fun _ _ => rfl)) pa_nil)))
          (pss_cons (ps_set (i := 0) nd rfl (.inl rfl) (C8.pe_c c_raw_stepped hr (by decide) rfl (pa_cons (pv 0) (pa_cons (pe_ix ix_list (pv 2) pe_int (fun _ _ => rfl)) pa_nil))))
          (pss_one (ps_set (i := 2) nd rfl (.inl rfl) (C8.pe_c c_raw_steps hr (by decide) rfl (pa_cons (pv 0) pa_nil)))))))
      (pss_one (ps_ret (pe_tup (pa_cons (pe_callTy call_tuple_of rfl T.z_tuple (by decide +kernel) (pa_cons (pv 1) pa_nil)) (pa_cons (pv 0) pa_nil)))))))), ?_⟩
    refine ⟨Nat.zero_le _, fun l nl => ?_⟩
    have s0 : Same H (upd H l (.lst [])) := same_new nl _
    refine ⟨_, rfl, a, t, rfl, hp, hz, hw.same s0, fun f1 H1 nf1 s1 hf => ?_⟩
    refine ⟨fun m σ H' => ∃ b f u ways, σ = [some (.ref b), some (.ref l), some (.ref f)] ∧ Same H H' ∧ H' l = some (.lst ways) ∧ ways.length + m ≤ t.sz ∧ Wds K H' b u ∧ Star t u ∧ H' f = some (.lst ((stepsL u.ws).map iV)) ∧ m = u.sz ∧ f ≠ l ∧ (Zd H a → Zd H' b),
      ⟨t.sz, a, f1, t, [], rfl, s0.trans s1, s1 _ _ upd_same, by simp, (hw.same s0).same s1, .refl t, hf, rfl, (ne_of_none upd_same nf1).symm, fun z => z.same (s0.trans s1)⟩, fun m σ H' pv => ?_⟩
    obtain ⟨b, f, u, ways, rfl, s2, h2, hm, hb, st, hfu, em, nfl, hzb⟩ := pv
    have pu := hp.star st
    have uz : u.sz ≤ 1000 := Nat.le_trans (Tm.star_names st hp.g).2.2.2 hz
    refine ⟨_, rfl, f, _, rfl, .inl (.inl (.inl hfu)), _, _, rfl, rfl, decide (0 < (stepsL u.ws).length), ?_, ?_⟩
    · show V.bl (decide ((0 : Int) < ((((stepsL u.ws).map iV).length : Nat) : Int))) = V.bl (decide (0 < (stepsL u.ws).length))
      rw [List.length_map]
      congr 1
      exact decide_eq_decide.mpr (by omega)
    · cases e : stepsL u.ws with
      | nil =>
        refine iteF ?_
        have hn : Tm.Normal u := steps_nil e
        have enf : nf t = u := Tm.nf_eq hp.g ⟨st, hn⟩
        refine ⟨_, rfl, l, _, rfl, .inl ⟨.inl (.inl h2), fun y ny => ⟨_, rfl, szl (by show 2 ≤ 100000; decide), fun r nr => ?_⟩⟩⟩
        have s3 : Same H' (upd H' y (.tup ways)) := same_new ny _
        have s4 := s3.newd (o := .tup [.ref y, .ref b]) nr
        refine q r y b _ (s2.trans s4) upd_same ?_ fun z => (hzb z).same s4
        rw [enf]
        exact hb.same s4
      | cons p0 ps =>
        refine iteT ?_
        have hr0 : Tm.redex u.ws p0 := mem_steps.mp (by rw [e]; exact List.mem_cons_self)
        have hff : H' f = some (.lst ((p0 :: ps).map iV)) := by rw [hfu, e]
        refine ⟨fun σ' H'' => ∃ m', m' < m ∧ ∃ b f u ways, σ' = [some (.ref b), some (.ref l), some (.ref f)] ∧ Same H H'' ∧ H'' l = some (.lst ways) ∧ ways.length + m' ≤ t.sz ∧ Wds K H'' b u ∧ Star t u ∧ H'' f = some (.lst ((stepsL u.ws).map iV)) ∧ m' = u.sz ∧ f ≠ l ∧ (Zd H a → Zd H'' b), fun _ _ h => h, ?_⟩
        -- way.append(found[0])
        refine ⟨_, rfl, .inl ⟨rfl, _, .inl (.inl h2)⟩, _, rfl, f, _, 0, .int (p0 : Nat), rfl, rfl, .inl (.inl hff), atI_nat (j := 0) rfl, l, ways, _, rfl, rfl, h2, szt (by omega), ?_⟩
        have s5 : Same H (upd H' l (.lst (ways ++ [.int (p0 : Nat)]))) := Same.mutd s2 nl
        have hb5 : Wds K (upd H' l (.lst (ways ++ [.int (p0 : Nat)]))) b u := by
          rcases hb with (hb | ⟨o, hb⟩) | hb
          · exact .inl (.inl (by rw [upd_ne (ne_of hb h2 (by intro z; cases z))]; exact hb))
          · exact .inl (.inr ⟨o, by rw [upd_ne (ne_of hb h2 (by intro z; cases z))]; exact hb⟩)
          · exact .inr hb
        have hf5 : (upd H' l (.lst (ways ++ [.int (p0 : Nat)]))) f = some (.lst ((p0 :: ps).map iV)) := by
          rw [upd_ne nfl]
          exact hff
        -- words = raw_stepped(words, found[0])
        refine ⟨_, rfl, _, rfl, f, _, 0, .int (p0 : Nat), rfl, rfl, .inl (.inl hf5), atI_nat (j := 0) rfl, b, u, p0, rfl, pu, uz, hb5, hr0, fun u' b' H6 su s6 hb6 z6 => ?_⟩
        obtain ⟨_, _, _, _, _, _, zz⟩ := Tm.step_names su pu.g
        -- found = raw_steps(words)
        refine ⟨_, rfl, b', u', rfl, pu.step su, by omega, hb6, fun f' H7 nf7 s7 hf7 => ?_⟩
        refine ⟨u'.sz, by omega, b', f', u', _, rfl, s5.trans (s6.trans s7), s7 _ _ (s6 _ _ upd_same), ?_, hb6.same s7, st.trans (.one su), hf7, rfl, (ne_of_none (s6 _ _ upd_same) nf7).symm, fun z => (z6 ((hzb z).upd h2 fun _ _ e => by cases e)).same s7⟩
        rw [List.length_append, List.length_singleton]
        omega
def spRawRest (K : PySem.W.Frag) : Sp := fun vs H Q _ => ∃ a t, vs = [.ref a] ∧ Pg t ∧ t.sz ≤ 1000 ∧ Wds K H a t ∧ ∀ b H', Same H H' → Wds K H' b (nf t) → (Zd H a → Zd H' b) → Q (.ref b) H'
abbrev st_raw_rest : Stmt := topS 27
abbrev nm_raw_rest : List Str := ["words"]
theorem sc_raw_rest : FnScope nm_raw_rest ["words"] (C8.fnScope st_raw_rest) := ⟨rfl, rfl, rfl, by decide +kernel, rfl, by decide +kernel, by decide +kernel⟩
theorem ok_raw_rest (D : Dn K mg "raw_rest" st_raw_rest ["words"]) (T : Bt mg) (c_way_to_rest : C8.Cal P w K mg base 5 "way_to_rest" (spWay K) []) : C8.Cal P w K mg base 6 "raw_rest" (spRawRest K) [] := by
  obtain ⟨f, fd, F, b⟩ := D.ex
  have nd := sc_raw_rest.nd
  refine C8.cal0 F b .nil sc_raw_rest (fun vs H Q E h => ?_) (fun cdv A outer s H vs Q E hr h => ?_)
  · obtain ⟨a, t, rfl, _⟩ := h
    rfl
  · obtain ⟨a, t, rfl, hp, hz, hw, q⟩ := h
    refine ⟨_, (pss_one (ps_ret (pe_ix ix_tup (C8.pe_c c_way_to_rest hr (by decide) rfl (pa_cons (pv 0) pa_nil)) pe_int (fun _ _ => rfl)))), ?_⟩
    refine ⟨_, rfl, a, t, rfl, hp, hz, hw, fun r y b H1 s1 hr1 hb hzb => ?_⟩
    exact ⟨r, _, 1, _, rfl, rfl, .inl (.inl hr1), atI_nat (j := 1) rfl, q b H1 s1 hb hzb⟩
theorem sqT_upd {H : Hp} {a x : Addr} {xs : List V} {C dx : Addr} {fs : List (Str × V)} {o : HO} (h : SqT K H a xs) (hx : H x = some (.ins C dx fs)) : SqT K (upd H x o) a xs := by
  rcases h with (h | ⟨ob, h⟩) | h
  · exact .inl (.inl (by rw [upd_ne (ne_of h hx (by intro z; cases z))]; exact h))
  · exact .inl (.inr ⟨ob, by rw [upd_ne (ne_of h hx (by intro z; cases z))]; exact h⟩)
  · exact .inr h
/-- the new object at x is a program with t's words, at b -/
def spRest (K : PySem.W.Frag) (CP CR : Addr) : Sp := fun vs H Q _ => ∃ p t, vs = [.ref p] ∧ Pg t ∧ t.sz ≤ 1000 ∧ IsP K CP CR H p t ∧ ∀ x dx b H', Same H H' → H' x = some (.ins CR dx [("words", .ref b)]) → Wds K H' b (nf t) → ((∀ C dx a, H p = some (.ins C dx [("words", .ref a)]) → Zd H a) → Zd H' b) → Q (.ref x) H'
abbrev st_rest : Stmt := topS 28
abbrev nm_rest : List Str := ["program"]
theorem sc_rest : FnScope nm_rest ["program"] (C8.fnScope st_rest) := ⟨rfl, rfl, rfl, by decide +kernel, rfl, by decide +kernel, by decide +kernel⟩
theorem ok_rest {CP CR : Addr} (D : Dn K mg "rest" st_rest ["program"]) (ct : Ct K mg CP CR) (c_raw_rest : C8.Cal P w K mg base 6 "raw_rest" (spRawRest K) []) (c_RawProgram : C8.Mak P w K mg base 1 "RawProgram" CR (spInit K CR) []) : C8.Cal P w K mg base 7 "rest" (spRest K CP CR) [] := by
  obtain ⟨f, fd, F, b⟩ := D.ex
  have nd := sc_rest.nd
  refine C8.cal0 F b .nil sc_rest (fun vs H Q E h => ?_) (fun cdv A outer s H vs Q E hr h => ?_)
  · obtain ⟨x, t, rfl, _⟩ := h
    rfl
  · obtain ⟨p, t, rfl, hp, hz, ⟨C, dx, a, hC, hx, hw⟩, q⟩ := h
    refine ⟨_, (pss_one (ps_ret (C8.pe_mk c_RawProgram hr (by decide) rfl (pa_cons (C8.pe_c c_raw_rest hr (by decide) rfl (pa_cons (pe_fld (pv 0) rfl) pa_nil)) pa_nil)))), ?_⟩
    have clC : Cls K C := by rcases hC with rfl | rfl; exact ct.clP; exact ct.clR
    have nC : NoAttr K C "words" := by rcases hC with rfl | rfl; exact ct.nP; exact ct.nR
    refine ⟨_, rfl, p, C, dx, _, _, rfl, hx, clC, nC, look_words a, a, t, rfl, hp, hz, hw, fun b H1 s1 hb hzb x dy nx ndy ne => ?_⟩
    have s2 : Same H1 (upd (upd H1 dy (.own x)) x (.ins CR dy [])) := (same_new ndy _).newd (by rw [upd_ne ne.symm]; exact nx)
    refine ⟨x, b, dy, nf t, rfl, upd_same, hp.nf, Nat.le_trans (nf_sz hp) hz, hb.same s2, fun H2 H3 s3 e3 => ⟨rfl, ?_⟩⟩
    subst e3
    refine q x dy b _ (s1.trans (made_same nx ndy s3)) upd_same ?_ fun z => Zd.upd (((hzb (z C dx a hx)).same s2).same s3) (s3 _ _ upd_same) fun _ _ e => by cases e
    exact sqT_upd ((hb.same s2).same s3) (s3 _ _ upd_same)
def spMany (K : PySem.W.Frag) (CP CR : Addr) : Sp := fun vs H Q _ => ∃ p t, vs = [.ref p] ∧ Pg t ∧ t.sz ≤ 1000 ∧ IsP K CP CR H p t ∧ ∀ H', Same H H' → Q (.int ((t.gv : Nat) - ((nf t).gv : Nat))) H'
abbrev st_many_steps : Stmt := topS 29
abbrev nm_many_steps : List Str := ["program"]
theorem sc_many_steps : FnScope nm_many_steps ["program"] (C8.fnScope st_many_steps) := ⟨rfl, rfl, rfl, by decide +kernel, rfl, by decide +kernel, by decide +kernel⟩
theorem ok_many_steps {CP CR : Addr} (D : Dn K mg "many_steps" st_many_steps ["program"]) (c_givens : C8.Cal P w K mg base 2 "givens" (spGivens K CP CR) []) (c_rest : C8.Cal P w K mg base 7 "rest" (spRest K CP CR) []) : C8.Cal P w K mg base 8 "many_steps" (spMany K CP CR) [] := by
  obtain ⟨f, fd, F, b⟩ := D.ex
  have nd := sc_many_steps.nd
  refine C8.cal0 F b .nil sc_many_steps (fun vs H Q E h => ?_) (fun cdv A outer s H vs Q E hr h => ?_)
  · obtain ⟨x, t, rfl, _⟩ := h
    rfl
  · obtain ⟨p, t, rfl, hp, hz, hx, q⟩ := h
    refine ⟨_, (pss_one (ps_ret (pe_op op_sub (C8.pe_c c_givens hr (by decide) rfl (pa_cons (pv 0) pa_nil)) (C8.pe_c c_givens hr (by decide) rfl (pa_cons (C8.pe_c c_rest hr (by decide) rfl (pa_cons (pv 0) pa_nil)) pa_nil))))), ?_⟩
    refine ⟨_, rfl, p, t, rfl, hp, hz, hx, fun H1 s1 => ⟨_, rfl, p, t, rfl, hp, hz, hx.same s1, fun x dx b H2 s2 h2 hb _ => ?_⟩⟩
    refine ⟨x, nf t, rfl, hp.nf, Nat.le_trans (nf_sz hp) hz, ⟨CR, dx, b, .inr rfl, h2, hb⟩, fun H3 s3 => ⟨_, _, rfl, rfl, ?_⟩⟩
    exact q H3 (s1.trans (s2.trans s3))
end Ok
set_option maxRecDepth 100000
set_option maxHeartbeats 4000000
/-! The pot, draws, shuffles, letters. -/
namespace Ok
open PySem PySem.Spec PyProof.Rows L2 HT
open Tm (Tk T Good Step Star nf)
variable {P : Program} {w : World} {K : PySem.W.Frag} {mg : Str → Option Value} {base : Heap}
/-- where a pot stands: its list, the great ones, the small ones -/
structure Pt where
  p : Addr
  ga : Addr
  sa : Addr
def PotAt (H : Hp) (z : Pt) : Prop := ∃ (gs ss : List Int) (t m : Int), H z.p = some (.lst [.ref z.ga, .ref z.sa, .int t, .int m]) ∧ H z.ga = some (.lst (gs.map V.int)) ∧ H z.sa = some (.lst (ss.map V.int)) ∧ ss ≠ [] ∧ z.ga ≠ z.sa
/-- all but the pot stays -/
def But (z : Pt) (H H' : Hp) : Prop := ∀ b o, b ≠ z.p → b ≠ z.ga → H b = some o → H' b = some o
theorem But.refl (z : Pt) (H : Hp) : But z H H := fun _ _ _ _ h => h
theorem But.trans {z : Pt} {H H1 H2 : Hp} (a : But z H H1) (b : But z H1 H2) : But z H H2 := fun c o h1 h2 h => b c o h1 h2 (a c o h1 h2 h)
theorem But.of {z : Pt} {H H' : Hp} (s : Same H H') : But z H H' := fun b o _ _ h => s b o h
theorem pot_ne {H : Hp} {p ga sa : Addr} {gs : List Int} {r : List V} (h1 : H p = some (.lst (.ref ga :: r))) (h2 : H sa = some (.lst (gs.map V.int))) : p ≠ sa := ne_of h1 h2 (by
  intro z
  injection z with z
  cases gs with
  | nil => cases z
  | cons g gs =>
    injection z with z _
    cases z)
theorem PotAt.same {H H' : Hp} {z : Pt} (h : PotAt H z) (s : Same H H') : PotAt H' z := by
  obtain ⟨gs, ss, t, m, h1, h2, h3, h4, h5⟩ := h
  exact ⟨gs, ss, t, m, s _ _ h1, s _ _ h2, s _ _ h3, h4, h5⟩
theorem But.tup {z : Pt} {H H' : Hp} (s : But z H H') (h : PotAt H z) {a : Addr} {xs : List V} (q : SqT K H a xs) : SqT K H' a xs := by
  obtain ⟨gs, ss, t, m, h1, h2, h3, h4, h5⟩ := h
  rcases q with (q | ⟨ob, q⟩) | q
  · exact .inl (.inl (s _ _ (ne_of q h1 (by intro z; cases z)) (ne_of q h2 (by intro z; cases z)) q))
  · exact .inl (.inr ⟨ob, s _ _ (ne_of q h1 (by intro z; cases z)) (ne_of q h2 (by intro z; cases z)) q⟩)
  · exact .inr q
/-- a new object beside the pot stays -/
theorem But.keep {z : Pt} {H0 H H' : Hp} (s : But z H H') (h : PotAt H0 z) {a : Addr} {o : HO} (n : H0 a = none) (q : H a = some o) : H' a = some o := by
  obtain ⟨gs, ss, t, m, h1, h2, h3, h4, h5⟩ := h
  exact s a o (ne_of_none h1 n).symm (ne_of_none h2 n).symm q
/-- a change of what was not there -/
theorem But.mutd {z : Pt} {H H' : Hp} {a : Addr} {o : HO} (s : But z H H') (n : H a = none) : But z H (upd H' a o) := fun b u h1 h2 q => by
  rw [upd_ne (ne_of_none q n)]
  exact s b u h1 h2 q
theorem PotAt.mutd {H0 H : Hp} {z : Pt} {a : Addr} {o : HO} (h0 : PotAt H0 z) (h : PotAt H z) (n : H0 a = none) : PotAt (upd H a o) z := by
  obtain ⟨gs, ss, t, m, h1, h2, h3, h4, h5⟩ := h
  obtain ⟨_, _, _, _, k1, k2, k3, _, _⟩ := h0
  exact ⟨gs, ss, t, m, by rw [upd_ne (ne_of_none k1 n)]; exact h1, by rw [upd_ne (ne_of_none k2 n)]; exact h2, by rw [upd_ne (ne_of_none k3 n)]; exact h3, h4, h5⟩
def spDraw : Sp := fun vs H Q _ => ∃ (z : Pt) (n : Nat), vs = [.ref z.p, .int (n : Nat)] ∧ 1 ≤ n ∧ n ≤ 100000 ∧ PotAt H z ∧ ∀ (r : Nat) H', r < n → But z H H' → PotAt H' z → Q (.int (r : Nat)) H'
theorem ixn {n j : Nat} (h : j < n) : ixN n (j : Nat) = some j := by
  unfold ixN
  rw [if_pos (by omega), if_pos (by omega), Int.toNat_natCast]
theorem seqix0 {n : Nat} (h : 0 < n) : seqIndex? 0 n = some 0 := by
  simp [seqIndex?]
  omega
theorem nat_mod {x : Int} {n : Nat} (h : 1 ≤ n) : ∃ r : Nat, r < n ∧ x % (n : Int) = (r : Int) := by
  have h1 := Int.emod_nonneg x (show (n : Int) ≠ 0 by omega)
  have h2 := Int.emod_lt_of_pos x (show (0 : Int) < n by omega)
  exact ⟨(x % (n : Int)).toNat, by omega, by omega⟩
abbrev st_law_draw : Stmt := topS 32
abbrev nm_law_draw : List Str := ["_law_pot_here", "_law_many", "_law_turn", "_law_number", "_law_seed"]
theorem sc_law_draw : FnScope nm_law_draw ["_law_pot_here", "_law_many"] (C8.fnScope st_law_draw) := ⟨rfl, rfl, rfl, by decide +kernel, rfl, by decide +kernel, by decide +kernel⟩
theorem ok_law_draw (D : Dn K mg "_law_draw" st_law_draw ["_law_pot_here", "_law_many"]) (T : Bt mg) : C8.Cal P w K mg base 1 "_law_draw" spDraw [] := by
  obtain ⟨f, fd, F, b⟩ := D.ex
  have nd := sc_law_draw.nd
  refine C8.cal0 F b .nil sc_law_draw (fun vs H Q E h => ?_) (fun cdv A outer s H vs Q E hr h => ?_)
  · obtain ⟨z, n, rfl, _⟩ := h
    rfl
  · obtain ⟨⟨p, ga, sa⟩, n, rfl, hn1, hn2, ⟨gs, ss, t, m, h1, h2, h3, h4, h5⟩, q⟩ := h
    simp only at h1 h2 h3 h5
    refine ⟨_, (pss_cons (ps_set (i := 2) nd rfl (.inl rfl) (pe_ix ix_list (pv 0) pe_int (fun _ _ => rfl)))
      (pss_cons (ps_asg (pe_op op_add (pv 2) pe_int) (pg_sub (pv 0) pe_int set_list))
      (pss_cons (ps_if (pt_cmpR op_gt (pe_callB call_len_seq rfl T.z_len PySem.boot_len (pa_cons (pe_ix ix_list (pv 0) pe_int (fun _ _ => rfl)) pa_nil)) pe_int (nomark _))
        (pss_cons (ps_set (i := 3) nd rfl (.inl rfl) (pe_ix ix_list (pe_ix ix_list (pv 0) pe_int (fun _ _ => rfl)) pe_int (fun _ _ => rfl)))
          (pss_cons (ps_asg (pe_op op_fdiv (pv 3) (pv 1)) (pg_sub (pe_ix ix_list (pv 0) pe_int (fun _ _ => rfl)) pe_int set_list))
          (pss_cons (ps_if (pt_cmpR op_lt (pv 3) (pv 1) (nomark _))
            (pss_one (ps_expr (pe_bm PySem.F.plainAttrs_list PySem.F.slot_list_pop PySem.F.type_list_pop mt_popAt (pe_ix ix_list (pv 0) pe_int (fun _ _ => rfl)) (pa_cons pe_int pa_nil))))
            pss_nil)
          (pss_one (ps_ret (pe_op op_mod (pe_callTy call_int1 rfl T.z_int (by decide +kernel) (pa_cons (pv 3) pa_nil)) (pv 1)))))))
        pss_nil)
      (pss_cons (ps_set (i := 4) nd rfl (.inl rfl) (pe_op op_add (pe_op op_add (pe_op op_mul (pe_ix ix_list (pe_ix ix_list (pv 0) pe_int (fun _ _ => rfl)) (pe_op op_mod (pe_callTy call_int1 rfl T.z_int (by decide +kernel) (pa_cons (pv 2) pa_nil)) (pe_callB call_len_seq rfl T.z_len PySem.boot_len (pa_cons (pe_ix ix_list (pv 0) pe_int (fun _ _ => rfl)) pa_nil))) (fun _ _ => rfl)) pe_int) (pe_op op_mul pe_int (pv 2))) (pe_op op_mul (pe_ix ix_list (pv 0) pe_int (fun _ _ => rfl)) pe_int)))
      (pss_cons (ps_set (i := 3) nd rfl (.inl rfl) (pe_op op_mod (pe_callTy call_int1 rfl T.z_int (by decide +kernel) (pa_cons (pe_op op_add (pe_op op_mul (pv 4) pe_int) pe_int) pa_nil)) pe_int))
      (pss_cons (ps_set (i := 3) nd rfl (.inl rfl) (pe_op op_mod (pe_callTy call_int1 rfl T.z_int (by decide +kernel) (pa_cons (pe_op op_mul (pv 3) (pe_op op_add (pe_op op_fdiv (pv 3) pe_int) pe_int)) pa_nil)) pe_int))
      (pss_cons (ps_set (i := 3) nd rfl (.inl rfl) (pe_op op_mod (pe_callTy call_int1 rfl T.z_int (by decide +kernel) (pa_cons (pe_op op_add (pe_op op_mul (pv 3) (pe_op op_add (pe_op op_fdiv (pv 3) pe_int) pe_int)) (pv 2)) pa_nil)) pe_int))
      (pss_one (ps_ret (pe_op op_mod (pe_callTy call_int1 rfl T.z_int (by decide +kernel) (pa_cons (pe_op op_fdiv (pv 3) pe_int) pa_nil)) (pv 1))))))))))), ?_⟩
    have npg : p ≠ ga := pot_ne h1 h2
    have nps : p ≠ sa := pot_ne h1 h3
    -- turn = pot[2]; pot[2] = turn + 1
    refine ⟨_, rfl, p, _, 2, .int t, rfl, rfl, .inl (.inl h1), atI_nat (j := 2) rfl, ?_⟩
    refine ⟨_, rfl, _, _, rfl, rfl, _, rfl, p, _, 2, 2, rfl, rfl, h1, rfl, ?_⟩
    have k1 : (upd H p (.lst [.ref ga, .ref sa, .int (t + 1), .int m])) p = some (.lst [.ref ga, .ref sa, .int (t + 1), .int m]) := upd_same
    have k2 : (upd H p (.lst [.ref ga, .ref sa, .int (t + 1), .int m])) ga = some (.lst (gs.map V.int)) := by rw [upd_ne npg.symm]; exact h2
    have k3 : (upd H p (.lst [.ref ga, .ref sa, .int (t + 1), .int m])) sa = some (.lst (ss.map V.int)) := by rw [upd_ne nps.symm]; exact h3
    have kb : But ⟨p, ga, sa⟩ H (upd H p (.lst [.ref ga, .ref sa, .int (t + 1), .int m])) := fun b o hb _ e => by rw [upd_ne hb]; exact e
    show tSeq _ _ _ _ (upd H p (.lst [.ref ga, .ref sa, .int (t + 1), .int m]))
    -- if len(pot[0]) > 0
    refine ⟨_, rfl, p, _, 0, .ref ga, rfl, rfl, .inl (.inl k1), atI_nat (j := 0) rfl, ga, _, rfl, .inl (.inl (.inl k2)), _, _, rfl, rfl, decide (0 < gs.length), ?_, ?_⟩
    · show V.bl (decide ((0 : Int) < (((gs.map V.int).length : Nat) : Int))) = _
      rw [List.length_map]
      congr 1
      exact decide_eq_decide.mpr (by omega)
    cases gs with
    | cons g gs =>
      refine iteT ?_
      refine ⟨_, rfl, p, _, 0, .ref ga, rfl, rfl, .inl (.inl k1), atI_nat (j := 0) rfl, ga, _, 0, .int g, rfl, rfl, .inl (.inl k2), atI_nat (j := 0) rfl, ?_⟩
      -- pot[0][0] = number // many
      refine ⟨_, rfl, _, rfl, g, (n : Nat), rfl, rfl, ⟨by omega, by omega⟩, ?_⟩
      refine ⟨_, rfl, p, _, 0, .ref ga, rfl, rfl, .inl (.inl k1), atI_nat (j := 0) rfl, ga, _, 0, 0, rfl, rfl, k2, ixn (j := 0) (by simp), ?_⟩
      have j1 : (upd (upd H p (.lst [.ref ga, .ref sa, .int (t + 1), .int m])) ga (.lst (((g :: gs).map V.int).set 0 (.int (g / (n : Nat)))))) p = some (.lst [.ref ga, .ref sa, .int (t + 1), .int m]) := by rw [upd_ne npg]; exact k1
      have j2 : (upd (upd H p (.lst [.ref ga, .ref sa, .int (t + 1), .int m])) ga (.lst (((g :: gs).map V.int).set 0 (.int (g / (n : Nat)))))) ga = some (.lst ((g / (n : Nat) :: gs).map V.int)) := upd_same
      have j3 : (upd (upd H p (.lst [.ref ga, .ref sa, .int (t + 1), .int m])) ga (.lst (((g :: gs).map V.int).set 0 (.int (g / (n : Nat)))))) sa = some (.lst (ss.map V.int)) := by rw [upd_ne h5.symm]; exact k3
      have jb : But ⟨p, ga, sa⟩ H (upd (upd H p (.lst [.ref ga, .ref sa, .int (t + 1), .int m])) ga (.lst (((g :: gs).map V.int).set 0 (.int (g / (n : Nat)))))) := fun b o hb hg e => by rw [upd_ne hg]; exact kb b o hb hg e
      obtain ⟨r, hr1, hr2⟩ := nat_mod (x := g) hn1
      -- if number < many
      refine ⟨_, rfl, _, rfl, g, (n : Nat), rfl, rfl, _, rfl, ite2 (fun _ => ?_) (fun _ => ?_)⟩
      · refine ⟨_, rfl, p, _, 0, .ref ga, rfl, rfl, .inl (.inl j1), atI_nat (j := 0) rfl, .inl ⟨rfl, _, .inl (.inl j2)⟩, ga, _, 0, 0, _, rfl, rfl, j2, by decide, by decide, seqix0 (by simp), rfl, ?_⟩
        refine ⟨_, rfl, .inl ⟨g, rfl, _, rfl, g, (n : Nat), rfl, rfl, by omega, ?_⟩⟩
        show Q (.int (g % (n : Nat))) _
        rw [hr2]
        refine q r _ hr1 (fun b o hb hg e => ?_) ⟨gs, ss, t + 1, m, ?_, upd_same, ?_, h4, h5⟩
        · rw [upd_ne hg]
          exact jb b o hb hg e
        · rw [upd_ne npg]
          exact j1
        · rw [upd_ne h5.symm]
          exact j3
      · refine ⟨_, rfl, .inl ⟨g, rfl, _, rfl, g, (n : Nat), rfl, rfl, by omega, ?_⟩⟩
        show Q (.int (g % (n : Nat))) _
        rw [hr2]
        exact q r _ hr1 jb ⟨_, ss, t + 1, m, j1, j2, j3, h4, h5⟩
    | nil =>
      refine iteF ?_
      -- seed
      have hs0 : 0 < ss.length := List.length_pos_iff.mpr h4
      obtain ⟨i, hi1, hi2⟩ := nat_mod (x := t) (n := ss.length) (by omega)
      have hi3 : (ss.map V.int)[i]? = some (.int ss[i]) := by rw [List.getElem?_map, List.getElem?_eq_getElem hi1]; rfl
      refine ⟨_, rfl, p, _, 1, .ref sa, rfl, rfl, .inl (.inl k1), atI_nat (j := 1) rfl, _, rfl, .inl ⟨t, rfl, _, rfl, p, _, 1, .ref sa, rfl, rfl, .inl (.inl k1), atI_nat (j := 1) rfl, sa, _, rfl, .inl (.inl (.inl k3)), t, _, rfl, rfl, by rw [List.length_map]; omega, ?_⟩⟩
      refine ⟨sa, _, _, .int ss[i], rfl, rfl, .inl (.inl k3), at_of (j := i) (by rw [List.length_map]; exact hi2) hi3, ss[i], 7919, rfl, rfl, .inr ⟨by decide, by decide⟩, ?_⟩
      refine ⟨_, rfl, 104729, t, rfl, rfl, .inl ⟨by decide, by decide⟩, _, _, rfl, rfl, ?_⟩
      refine ⟨_, rfl, p, _, 3, .int m, rfl, rfl, .inl (.inl k1), atI_nat (j := 3) rfl, m, 31, rfl, rfl, .inr ⟨by decide, by decide⟩, _, _, rfl, rfl, ?_⟩
      have fit : ∀ (y : Int) (c : Int), 0 < c → c ≤ 2147483647 → -(2 ^ 64) < y % c ∧ y % c < 2 ^ 64 := fun y c c0 c1 => by
        have h1 := Int.emod_nonneg y (show c ≠ 0 by omega)
        have h2 := Int.emod_lt_of_pos y c0
        constructor <;> omega
      -- the three turns
      refine ⟨_, rfl, _, 48271, rfl, rfl, .inr ⟨by decide, by decide⟩, _, 11, rfl, rfl, .inl ⟨_, rfl, _, 2147483647, rfl, rfl, (by show (0 : Int) < 2147483647; decide), ?_⟩⟩
      refine ⟨_, rfl, _, rfl, _, 1009, rfl, rfl, ⟨by decide, by decide⟩, _, 69621, rfl, rfl, _, _, rfl, rfl, .inl (fit _ _ (by decide) (by decide)), .inl ⟨_, rfl, _, 2147483629, rfl, rfl, (by show (0 : Int) < 2147483629; decide), ?_⟩⟩
      refine ⟨_, rfl, _, rfl, _, 2003, rfl, rfl, ⟨by decide, by decide⟩, _, 40692, rfl, rfl, _, _, rfl, rfl, .inl (fit _ _ (by decide) (by decide)), _, rfl, _, _, rfl, rfl, .inl ⟨_, rfl, _, 2147483399, rfl, rfl, (by show (0 : Int) < 2147483399; decide), ?_⟩⟩
      refine ⟨_, rfl, _, 64, rfl, rfl, ⟨by decide, by decide⟩, .inl ⟨_, rfl, _, rfl, _, (n : Nat), rfl, rfl, by omega, ?_⟩⟩
      refine (fun (z : ∀ x : Int, Q (.int (x % (n : Nat))) _) => z _) fun x => ?_
      obtain ⟨r, hr1, hr2⟩ := nat_mod (x := x) hn1
      rw [hr2]
      exact q r _ hr1 kb ⟨[], ss, t + 1, m, k1, k2, k3, h4, h5⟩
end Ok
set_option maxRecDepth 100000
set_option maxHeartbeats 4000000
/-! The pot made; shuffles, letters, ends; the law's judges. -/
namespace Ok
open PySem PySem.Spec PyProof.Rows L2 HT
open Tm (Tk T Good Step Star nf)
variable {P : Program} {w : World} {K : PySem.W.Frag} {mg : Str → Option Value} {base : Heap}
theorem cutV_ints (ns : List Int) (lo hi : Option Int) : ∃ cs : List Int, cutV (ns.map V.int) lo hi = cs.map V.int ∧ cs.length ≤ ns.length := by
  refine ⟨(ns.drop (HT.sIx (ns.map V.int).length 0 lo)).take (HT.sIx (ns.map V.int).length (ns.map V.int).length hi - HT.sIx (ns.map V.int).length 0 lo), ?_, ?_⟩
  · unfold cutV
    rw [List.map_take, List.map_drop]
  · rw [List.length_take, List.length_drop]
    omega
theorem int_at {ns : List Int} {i : Nat} {y : V} (h : (ns.map V.int)[i]? = some y) : ∃ z, ns[i]? = some z ∧ y = .int z := by
  rw [List.getElem?_map] at h
  cases e : ns[i]? with
  | none =>
    rw [e] at h
    cases h
  | some z =>
    rw [e] at h
    exact ⟨z, rfl, (Option.some.inj h).symm⟩
theorem seqL {H : Hp} {a : Addr} {xs : List V} (h : H a = some (.lst xs)) : SqL K H a xs := .inl (.inl h)
def spPot (K : PySem.W.Frag) : Sp := fun vs H Q _ => ∃ (a : Addr) (ns : List Int), vs = [.ref a] ∧ SqL K H a (ns.map V.int) ∧ ns.length ≤ 63 ∧ ∀ (z : Pt) H', Same H H' → PotAt H' z → Q (.ref z.p) H'
abbrev st_law_pot : Stmt := topS 31
abbrev nm_law_pot : List Str := ["_law_script", "_law_cells", "_law_item", "_law_greats", "_law_smalls"]
theorem sc_law_pot : FnScope nm_law_pot ["_law_script"] (C8.fnScope st_law_pot) := ⟨rfl, rfl, rfl, by decide +kernel, rfl, by decide +kernel, by decide +kernel⟩
theorem ok_law_pot (D : Dn K mg "_law_pot" st_law_pot ["_law_script"]) (T : Bt mg) : C8.Cal P w K mg base 1 "_law_pot" (spPot K) [] := by
  obtain ⟨f, fd, F, b⟩ := D.ex
  have nd := sc_law_pot.nd
  refine C8.cal0 F b .nil sc_law_pot (fun vs H Q E h => ?_) (fun cdv A outer s H vs Q E hr h => ?_)
  · obtain ⟨a, ns, rfl, _⟩ := h
    rfl
  · obtain ⟨a, ns, rfl, hS, hn, q⟩ := h
    refine ⟨_, (pss_cons (ps_setLc (i := 1) (own := [("_law_item", 2)]) rfl nd rfl rfl (sw_true rfl rfl rfl (by decide +kernel)) (pi_list (pe_slice sl_list (pv 0) po_none (po_some pe_int))) (blkOk_by (own := [("_law_item", 2)]) (N := nm_law_pot) (sc := C8.fnScope st_law_pot) (by decide +kernel)) (fun _ _ _ _ _ => (pg_name (i := 2) nd rfl (.inl rfl) (.inr rfl))) (fun _ _ _ _ _ => pts_nil) (fun _ _ _ _ _ => (pe_callTy call_int1 rfl T.z_int (by decide +kernel) (pa_cons (pv 2) pa_nil))))
      (pss_cons (ps_setLc (i := 3) (own := [("_law_item", 2)]) rfl nd rfl rfl (sw_true rfl rfl rfl (by decide +kernel)) (pi_list (pv 1)) (blkOk_by (own := [("_law_item", 2)]) (N := nm_law_pot) (sc := C8.fnScope st_law_pot) (by decide +kernel)) (fun _ _ _ _ _ => (pg_name (i := 2) nd rfl (.inl rfl) (.inr rfl))) (fun _ _ _ _ _ => pts_one (pt_cmpR op_ge (pe_callB call_abs rfl T.z_abs (by decide +kernel) (pa_cons (pv 2) pa_nil)) (pe_op op_pow pe_int pe_int) (nomark _))) (fun _ _ _ _ _ => (pe_callB call_abs rfl T.z_abs (by decide +kernel) (pa_cons (pv 2) pa_nil))))
      (pss_cons (ps_set (i := 4) nd rfl (.inl rfl) (pe_op op_cat (pe_lc (own := [("_law_item", 2)]) rfl nd (pi_list (pv 1)) (blkOk_by (own := [("_law_item", 2)]) (N := nm_law_pot) (sc := C8.fnScope st_law_pot) (by decide +kernel)) (fun _ _ _ _ _ => (pg_name (i := 2) nd rfl (.inl rfl) (.inr rfl))) (fun _ _ _ _ _ => pts_one (pt_cmpR op_lt (pe_callB call_abs rfl T.z_abs (by decide +kernel) (pa_cons (pv 2) pa_nil)) (pe_op op_pow pe_int pe_int) (nomark _))) (fun _ _ _ _ _ => (pe_op op_mod (pe_callTy call_int1 rfl T.z_int (by decide +kernel) (pa_cons (pv 2) pa_nil)) pe_int))) (pe_lst (pa_cons (pe_op op_add (pe_callB call_len_seq rfl T.z_len PySem.boot_len (pa_cons (pv 1) pa_nil)) pe_int) pa_nil))))
      (pss_one (ps_ret (pe_lst (pa_cons (pv 3) (pa_cons (pv 4) (pa_cons pe_int (pa_cons (pe_op op_mod (pe_callTy call_int1 rfl T.z_int (by decide +kernel) (pa_cons (pe_callB (cr_sum rfl) rfl T.z_sum (by decide +kernel) (pa_cons (pv 4) pa_nil)) pa_nil)) pe_int) pa_nil)))))))))), ?_⟩
    -- cells
    obtain ⟨cs, ecs, hcs⟩ := cutV_ints ns none (some 63)
    refine ⟨_, rfl, 63, rfl, a, _, rfl, hS, fun c nc => ?_⟩
    rw [ecs]
    have s0 : Same H (upd H c (.lst (cs.map V.int))) := same_new nc _
    refine ⟨c, rfl, ⟨_, seqL upd_same⟩, fun D nD => ?_⟩
    refine lc_it (walk_list (xs := cs.map V.int)) (fun i H' => Same (upd H c (.lst (cs.map V.int))) H' ∧ H' D = some (.lst ((cs.take i).map V.int))) ⟨same_new nD _, upd_same⟩ (fun i H' _ pv => seqL (pv.1 _ _ upd_same)) (fun i y H2 H3 hi pv hy => ?_) (fun H2 pv => ?_)
    · obtain ⟨rfl, hy⟩ := hy
      obtain ⟨z, hz, rfl⟩ := int_at hy
      obtain ⟨g1, g2, g3, g4⟩ := grow (y := .int z) pv.1 nD pv.2 (Same.refl _) (by rw [List.length_map, List.length_take]; omega)
      refine ⟨rfl, _, rfl, .inl ⟨z, rfl, _, g1, g2, g3, ?_⟩⟩
      rw [g4, List.take_add_one, hz, List.map_append]
      rfl
    obtain ⟨s1, h1⟩ := pv
    rw [List.length_map, List.take_length] at h1
    -- greats
    refine ⟨_, rfl, D, rfl, ⟨_, seqL h1⟩, fun G nG => ?_⟩
    refine lc_it (walk_list (xs := cs.map V.int)) (fun i H' => ∃ gs : List Int, Same H2 H' ∧ H' G = some (.lst (gs.map V.int)) ∧ gs.length ≤ i) ⟨[], same_new nG _, upd_same, Nat.le_refl _⟩ (fun i H' _ pv => ?_) (fun i y H3 H4 hi pv hy => ?_) (fun H3 pv => ?_)
    · obtain ⟨gs, s2, _⟩ := pv
      exact seqL (s2 _ _ h1)
    · obtain ⟨rfl, hy⟩ := hy
      obtain ⟨z, hz, rfl⟩ := int_at hy
      obtain ⟨gs, s2, h2, hl⟩ := pv
      have hi' : i < cs.length := by rw [List.length_map] at hi; exact hi
      refine ⟨rfl, _, rfl, z, rfl, 10, 18, rfl, rfl, ⟨by decide, by decide, by decide⟩, _, _, rfl, rfl, _, rfl, ite2 (fun _ => ?_) (fun _ => ⟨gs, s2, h2, by omega⟩)⟩
      obtain ⟨g1, g2, g3, g4⟩ := grow (y := .int (if z < 0 then -z else z)) s2 nG h2 (Same.refl _) (by rw [List.length_map]; omega)
      refine ⟨_, rfl, z, rfl, _, g1, g2, gs ++ [if z < 0 then -z else z], g3, ?_, ?_⟩
      · rw [g4, List.map_append]
        rfl
      · rw [List.length_append, List.length_singleton]
        omega
    obtain ⟨gs, s2, h2, hgl⟩ := pv
    -- smalls
    refine ⟨_, rfl, D, rfl, ⟨_, seqL (s2 _ _ h1)⟩, fun S nS => ?_⟩
    refine lc_it (walk_list (xs := cs.map V.int)) (fun i H' => ∃ ss : List Int, Same H3 H' ∧ H' S = some (.lst (ss.map V.int)) ∧ ss.length ≤ i) ⟨[], same_new nS _, upd_same, Nat.le_refl _⟩ (fun i H' _ pv => ?_) (fun i y H4 H5 hi pv hy => ?_) (fun H4 pv => ?_)
    · obtain ⟨ss, s3, _⟩ := pv
      exact seqL (s3 _ _ (s2 _ _ h1))
    · obtain ⟨rfl, hy⟩ := hy
      obtain ⟨z, hz, rfl⟩ := int_at hy
      obtain ⟨ss, s3, h3, hl⟩ := pv
      have hi' : i < cs.length := by rw [List.length_map] at hi; exact hi
      refine ⟨rfl, _, rfl, z, rfl, 10, 18, rfl, rfl, ⟨by decide, by decide, by decide⟩, _, _, rfl, rfl, _, rfl, ite2 (fun _ => ?_) (fun _ => ⟨ss, s3, h3, by omega⟩)⟩
      obtain ⟨g1, g2, g3, g4⟩ := grow (y := .int (z % 1000000007)) s3 nS h3 (Same.refl _) (by rw [List.length_map]; omega)
      refine ⟨_, rfl, .inl ⟨z, rfl, _, _, rfl, rfl, (by show (0 : Int) < 1000000007; decide), _, g1, g2, ss ++ [z % 1000000007], g3, ?_, ?_⟩⟩
      · rw [g4, List.map_append]
        rfl
      · rw [List.length_append, List.length_singleton]
        omega
    obtain ⟨ss, s3, h3, hsl⟩ := pv
    refine ⟨_, rfl, D, _, rfl, .inl (seqL (s3 _ _ (s2 _ _ h1))), _, _, rfl, rfl, szl (by show 1 ≤ 100000; decide), fun B nB => ?_⟩
    have s4 : Same H4 (upd H4 B (.lst [.int (((cs.map V.int).length : Nat) + 1)])) := same_new nB _
    refine ⟨S, B, _, _, rfl, rfl, s4 _ _ h3, upd_same, szl (by rw [List.length_map]; show ss.length + 1 ≤ 100000; rw [List.length_map] at hsl; omega), fun S2 nS2 => ?_⟩
    have s5 : Same H4 (upd (upd H4 B (.lst [.int (((cs.map V.int).length : Nat) + 1)])) S2 (.lst (ss.map V.int ++ [.int (((cs.map V.int).length : Nat) + 1)]))) := s4.newd nS2
    have hs2 : (upd (upd H4 B (.lst [.int (((cs.map V.int).length : Nat) + 1)])) S2 (.lst (ss.map V.int ++ [.int (((cs.map V.int).length : Nat) + 1)]))) S2 = some (.lst ((ss ++ [(((cs.map V.int).length : Nat) + 1 : Int)]).map V.int)) := by
      rw [upd_same, List.map_append]
      rfl
    -- the pot
    refine ⟨_, rfl, _, rfl, _, rfl, S2, _, rfl, seqL hs2, .inl ⟨_, rfl, _, 999983, rfl, rfl, (by show (0 : Int) < 999983; decide), szl (by show 4 ≤ 100000; decide), fun p np => ?_⟩⟩
    have s6 := same_new np (.lst [.ref G, .ref S2, .int 0, .int ((ss ++ [(((cs.map V.int).length : Nat) + 1 : Int)]).sum % 999983)])
    have hg2 := s5 _ _ (s3 _ _ h2)
    refine q ⟨p, G, S2⟩ _ (s0.trans (s1.trans (s2.trans (s3.trans (s5.trans s6))))) ⟨gs, ss ++ [(((cs.map V.int).length : Nat) + 1 : Int)], 0, _, upd_same, s6 _ _ hg2, s6 _ _ hs2, by simp, ?_⟩
    exact ne_of_none (s4 _ _ (s3 _ _ h2)) nS2
end Ok
set_option maxRecDepth 100000
set_option maxHeartbeats 4000000
/-! Ends by the law's own def; shuffles, letters; judges. -/
namespace Ok
open PySem PySem.Spec PyProof.Rows L2 HT
open Tm (Tk T Good Step Star nf)
variable {P : Program} {w : World} {K : PySem.W.Frag} {mg : Str → Option Value} {base : Heap}
abbrev st_law_ends : Stmt := topS 37
abbrev nm_law_ends : List Str := ["_law_words_here", "_law_found", "_law_whole", "_law_place", "_law_end", "_law_turn"]
theorem sc_law_ends : FnScope nm_law_ends ["_law_words_here"] (C8.fnScope st_law_ends) := ⟨rfl, rfl, rfl, by decide +kernel, rfl, by decide +kernel, by decide +kernel⟩
theorem ok_law_ends (D : Dn K mg "_law_ends" st_law_ends ["_law_words_here"]) (T : Bt mg) : C8.Cal P w K mg base 1 "_law_ends" (spEnds K) [] := by
  obtain ⟨f, fd, F, b⟩ := D.ex
  have nd := sc_law_ends.nd
  refine C8.cal0 F b .nil sc_law_ends (fun vs H Q E h => ?_) (fun cdv A outer s H vs Q E hr h => ?_)
  · obtain ⟨a, t, rfl, _⟩ := h
    rfl
  · obtain ⟨a, t, rfl, hp, hz, hw, q⟩ := h
    refine ⟨_, (pss_cons (ps_set (i := 1) nd rfl (.inl rfl) (pe_op op_rep (pe_lst (pa_cons pe_int pa_nil)) (pe_callB call_len_seq rfl T.z_len PySem.boot_len (pa_cons (pv 0) pa_nil))))
      (pss_cons (ps_set (i := 2) nd rfl (.inl rfl) (pe_lst pa_nil))
      (pss_cons (ps_for PassesOwn.never rfl (pi_range3 rfl T.z_range (pa_cons (pe_op op_sub (pe_callB call_len_seq rfl T.z_len PySem.boot_len (pa_cons (pv 0) pa_nil)) pe_int) (pa_cons (pe_un un_neg pe_int) (pa_cons (pe_un un_neg pe_int) pa_nil)))) (pg_name (i := 3) nd rfl (.inl rfl))
        (pss_cons (ps_set (i := 4) nd rfl (.inl rfl) (pe_op op_add (pv 3) pe_int))
          (pss_cons (ps_for PassesOwn.never rfl (pi_range1 rfl T.z_range (pa_cons (pe_ifExp (pt_cmpR op_eq (pe_ix ix_tup (pv 0) (pv 3) (fun _ _ => rfl)) pe_str (nomark _)) pe_int (pe_callTy call_int1 rfl T.z_int (by decide +kernel) (pa_cons (pe_cmpR op_eq (pe_slice C8.sl_txt (pe_ix ix_tup (pv 0) (pv 3) (fun _ _ => rfl)) po_none (po_some pe_int)) pe_str (nomark _)) pa_nil))) pa_nil)) (pg_name (i := 5) nd rfl (.inl rfl))
            (pss_one (ps_set (i := 4) nd rfl (.inl rfl) (pe_bm0 PySem.F.plainAttrs_list PySem.F.slot_list_pop PySem.F.type_list_pop mt_pop (pv 2)))))
          (pss_cons (ps_asg (pv 4) (pg_sub (pv 1) (pv 3) set_list))
          (pss_one (ps_expr (pe_bm PySem.F.plainAttrs_list PySem.F.slot_list_append PySem.F.type_list_append mt_append (pv 2) (pa_cons (pv 4) pa_nil))))))))
      (pss_one (ps_ret (pe_callTy call_tuple_of rfl T.z_tuple (by decide +kernel) (pa_cons (pv 1) pa_nil))))))), ?_⟩
    have hl : (t.ws.map eV).length = t.sz := by rw [List.length_map, Tm.ws_len]
    -- [0] * len(words); []
    refine ⟨szl (by decide), fun z nz => ⟨_, rfl, a, _, rfl, .inr ((same_new nz _).tupd hw), z, _, _, rfl, rfl, upd_same, by omega, by omega, szl (by rw [hl, Int.toNat_natCast]; show 1 * t.sz ≤ 100000; omega), fun l1 n1 => ⟨Nat.zero_le _, fun l2 n2 => ?_⟩⟩⟩
    have s1 : Same H (upd (upd H z (.lst [.int 0])) l1 (.lst (List.replicate (((t.ws.map eV).length : Int)).toNat [V.int 0]).flatten)) := (same_new nz _).newd n1
    have s2 := s1.newd (o := .lst []) n2
    have ne : l1 ≠ l2 := fun e => by
      rw [← e, upd_same] at n2
      cases n2
    have f1 : H l1 = none := (same_new nz _).free n1
    have f2 : H l2 = none := s1.free n2
    refine ⟨_, rfl, a, _, rfl, .inr (s2.tupd hw), _, _, rfl, rfl, 1, rfl, 1, rfl, _, _, _, _, rfl, RgC.neg (by omega) (by omega) (by decide) (by decide), ?_⟩
    have en : (((t.ws.map eV).length : Int) - 1 - -1).toNat = t.sz := by omega
    rw [en]
    refine for_rangeC (lo := ((t.ws.map eV).length : Int) - 1) (c := -1) (n := t.sz) (fun i σ H' => ∃ (pl e tn : Option V) (fo st : List Nat) (ts : List (Tm.T Nm)), σ = [some (.ref a), some (.ref l1), some (.ref l2), pl, e, tn] ∧ Same H H' ∧
      H' l1 = some (.lst ((List.replicate (t.sz - i) 0 ++ fo).map iV)) ∧ H' l2 = some (.lst (st.reverse.map iV)) ∧ EndsAt t i fo st ts)
      ⟨none, none, none, [], [], [], rfl, s2, ?_, ?_, EndsAt.start t⟩ (fun i σ H' hi pv => ?_) (fun σ H' pv => ?_)
    · rw [upd_ne ne, upd_same, flat_rep]
      simp [hl, iV]
    · exact upd_same
    · obtain ⟨pl, e0, tn, fo, st, ts, rfl, s3, h1, h2, ea⟩ := pv
      obtain ⟨p, k, e, us, ep, hk, ha, ee, ea'⟩ := ea.turn hi
      have epi : ((t.ws.map eV).length : Int) - 1 + (i : Nat) * -1 = (p : Nat) := by omega
      rw [epi]
      -- end = place + 1
      refine ⟨_, rfl, _, _, rfl, rfl, ?_⟩
      -- for turn in range(asked_by(words[place]))
      have hok := hp.at hk
      obtain ⟨n, hnk⟩ : ∃ n, n = asks k := ⟨_, rfl⟩
      rw [← hnk] at ha ee ea'
      refine ⟨_, rfl, _, rfl, a, _, _, _, rfl, rfl, s3.tupd hw, atI_nat (at_map hk), rfl, isG k, ?_, ?_⟩
      · show V.bl (decide (eV k = V.str ("@" : Str))) = V.bl (isG k)
        rw [eq_at hok]
      rcases k with _ | x | x
      · refine iteT ⟨2, rfl, by decide, by decide, ?_⟩
        rw [show (2 : Int).toNat = n from hnk.symm]
        refine for_range (lo := 0) (n := n) (fun j σ H'' => ∃ (e1 : Int) (tn : Option V), σ = [some (.ref a), some (.ref l1), some (.ref l2), some (.int (p : Nat)), some (.int e1), tn] ∧ Same H H'' ∧
          H'' l1 = some (.lst ((List.replicate (t.sz - i) 0 ++ fo).map iV)) ∧ H'' l2 = some (.lst ((st.drop j).reverse.map iV)) ∧ e1 = ((if j = 0 then p + 1 else st.getD (j - 1) 0 : Nat) : Int))
          ⟨_, _, rfl, s3, h1, h2, rfl⟩ (fun j σ H'' hj pv => ?_) (fun σ H'' pv => ?_)
        · obtain ⟨e1, tn, rfl, s4, g1, g2, ge⟩ := pv
          obtain ⟨y, y1, y2, y3⟩ := pop_rev (st := st) (j := j) (by omega)
          refine ⟨_, rfl, .inl ⟨rfl, _, .inl (.inl g2)⟩, l2, _, _, rfl, rfl, g2, y2, ?_⟩
          refine ⟨_, _, rfl, Same.mutd s4 f2, by rw [upd_ne ne]; exact g1, by rw [upd_same, y3], ?_⟩
          rw [if_neg (Nat.succ_ne_zero j), Nat.add_sub_cancel, y1]
        · obtain ⟨e1, tn, rfl, s4, g1, g2, ge⟩ := pv
          have ge2 : e1 = (e : Nat) := by rw [ge, ee]
          subst ge2
          -- found[place] = end; whole.append(end)
          have esz : t.sz - i = p + 1 := by omega
          refine ⟨_, rfl, _, rfl, _, rfl, l1, _, _, p, rfl, rfl, g1, ?_, ?_⟩
          · unfold ixN
            rw [if_pos (by omega), if_pos (by simp; omega), Int.toNat_natCast]
          have s5 : Same H (upd H'' l1 (.lst (((List.replicate (t.sz - i) 0 ++ fo).map iV).set p (.int (e : Nat))))) := Same.mutd s4 f1
          have g3 : (upd H'' l1 (.lst (((List.replicate (t.sz - i) 0 ++ fo).map iV).set p (.int (e : Nat))))) l2 = some (.lst ((st.drop (n)).reverse.map iV)) := by
            rw [upd_ne ne.symm]
            exact g2
          have hst : (st.drop (n)).length ≤ 1000 := by
            have := congrArg List.length ea.st
            rw [Tm.fs_len] at this
            have hts : ts.length ≤ 1000 := by
              have z1 : ∀ us : List (Tm.T Nm), us.length ≤ (Tm.fw us).length := by
                intro us
                induction us with
                | nil => exact Nat.le_refl _
                | cons v r ih =>
                  have := Tm.sz_pos v
                  simp only [Tm.fw, List.length_append, List.length_cons, Tm.ws_len]
                  omega
              have z2 := z1 ts
              rw [← ea.wd, List.length_drop, Tm.ws_len] at z2
              omega
            rw [List.length_drop]
            omega
          refine ⟨_, rfl, .inl ⟨rfl, _, .inl (.inl g3)⟩, _, rfl, l2, _, _, rfl, rfl, g3, szt (by rw [List.length_map, List.length_reverse]; omega), ?_⟩
          refine ⟨_, _, _, _, _, _, rfl, Same.mutd s5 f2, ?_, ?_, ea'⟩
          · rw [upd_ne ne, upd_same, esz]
            have := set_rep p e fo
            unfold iV at this ⊢
            rw [this, show t.sz - (i + 1) = p by omega]
          · rw [upd_same, List.reverse_cons, List.map_append]
            rfl
      · refine iteF ⟨_, rfl, _, rfl, a, _, _, _, rfl, rfl, s3.tupd hw, atI_nat (at_map hk), 1, rfl, _, rfl, szl (Nat.le_trans (enc_len hok) (by decide)), rfl, .inr ⟨true, ?_, 1, rfl, by decide, by decide, ?_⟩⟩
        · show [V.bl (decide (V.str (Txt.slice (enc (.t x)) none (some 1)) = V.str ("/" : Str)))] = [V.bl true]
          rw [first_sl hok]
          rfl
        rw [show (1 : Int).toNat = n from hnk.symm]
        refine for_range (lo := 0) (n := n) (fun j σ H'' => ∃ (e1 : Int) (tn : Option V), σ = [some (.ref a), some (.ref l1), some (.ref l2), some (.int (p : Nat)), some (.int e1), tn] ∧ Same H H'' ∧
          H'' l1 = some (.lst ((List.replicate (t.sz - i) 0 ++ fo).map iV)) ∧ H'' l2 = some (.lst ((st.drop j).reverse.map iV)) ∧ e1 = ((if j = 0 then p + 1 else st.getD (j - 1) 0 : Nat) : Int))
          ⟨_, _, rfl, s3, h1, h2, rfl⟩ (fun j σ H'' hj pv => ?_) (fun σ H'' pv => ?_)
        · obtain ⟨e1, tn, rfl, s4, g1, g2, ge⟩ := pv
          obtain ⟨y, y1, y2, y3⟩ := pop_rev (st := st) (j := j) (by omega)
          refine ⟨_, rfl, .inl ⟨rfl, _, .inl (.inl g2)⟩, l2, _, _, rfl, rfl, g2, y2, ?_⟩
          refine ⟨_, _, rfl, Same.mutd s4 f2, by rw [upd_ne ne]; exact g1, by rw [upd_same, y3], ?_⟩
          rw [if_neg (Nat.succ_ne_zero j), Nat.add_sub_cancel, y1]
        · obtain ⟨e1, tn, rfl, s4, g1, g2, ge⟩ := pv
          have ge2 : e1 = (e : Nat) := by rw [ge, ee]
          subst ge2
          -- found[place] = end; whole.append(end)
          have esz : t.sz - i = p + 1 := by omega
          refine ⟨_, rfl, _, rfl, _, rfl, l1, _, _, p, rfl, rfl, g1, ?_, ?_⟩
          · unfold ixN
            rw [if_pos (by omega), if_pos (by simp; omega), Int.toNat_natCast]
          have s5 : Same H (upd H'' l1 (.lst (((List.replicate (t.sz - i) 0 ++ fo).map iV).set p (.int (e : Nat))))) := Same.mutd s4 f1
          have g3 : (upd H'' l1 (.lst (((List.replicate (t.sz - i) 0 ++ fo).map iV).set p (.int (e : Nat))))) l2 = some (.lst ((st.drop (n)).reverse.map iV)) := by
            rw [upd_ne ne.symm]
            exact g2
          have hst : (st.drop (n)).length ≤ 1000 := by
            have := congrArg List.length ea.st
            rw [Tm.fs_len] at this
            have hts : ts.length ≤ 1000 := by
              have z1 : ∀ us : List (Tm.T Nm), us.length ≤ (Tm.fw us).length := by
                intro us
                induction us with
                | nil => exact Nat.le_refl _
                | cons v r ih =>
                  have := Tm.sz_pos v
                  simp only [Tm.fw, List.length_append, List.length_cons, Tm.ws_len]
                  omega
              have z2 := z1 ts
              rw [← ea.wd, List.length_drop, Tm.ws_len] at z2
              omega
            rw [List.length_drop]
            omega
          refine ⟨_, rfl, .inl ⟨rfl, _, .inl (.inl g3)⟩, _, rfl, l2, _, _, rfl, rfl, g3, szt (by rw [List.length_map, List.length_reverse]; omega), ?_⟩
          refine ⟨_, _, _, _, _, _, rfl, Same.mutd s5 f2, ?_, ?_, ea'⟩
          · rw [upd_ne ne, upd_same, esz]
            have := set_rep p e fo
            unfold iV at this ⊢
            rw [this, show t.sz - (i + 1) = p by omega]
          · rw [upd_same, List.reverse_cons, List.map_append]
            rfl
      · refine iteF ⟨_, rfl, _, rfl, a, _, _, _, rfl, rfl, s3.tupd hw, atI_nat (at_map hk), 1, rfl, _, rfl, szl (Nat.le_trans (enc_len hok) (by decide)), rfl, .inr ⟨false, ?_, 0, rfl, by decide, by decide, ?_⟩⟩
        · show [V.bl (decide (V.str (Txt.slice (enc (.u x)) none (some 1)) = V.str ("/" : Str)))] = [V.bl false]
          rw [first_sl hok]
          rfl
        rw [show (0 : Int).toNat = n from hnk.symm]
        refine for_range (lo := 0) (n := n) (fun j σ H'' => ∃ (e1 : Int) (tn : Option V), σ = [some (.ref a), some (.ref l1), some (.ref l2), some (.int (p : Nat)), some (.int e1), tn] ∧ Same H H'' ∧
          H'' l1 = some (.lst ((List.replicate (t.sz - i) 0 ++ fo).map iV)) ∧ H'' l2 = some (.lst ((st.drop j).reverse.map iV)) ∧ e1 = ((if j = 0 then p + 1 else st.getD (j - 1) 0 : Nat) : Int))
          ⟨_, _, rfl, s3, h1, h2, rfl⟩ (fun j σ H'' hj pv => ?_) (fun σ H'' pv => ?_)
        · obtain ⟨e1, tn, rfl, s4, g1, g2, ge⟩ := pv
          obtain ⟨y, y1, y2, y3⟩ := pop_rev (st := st) (j := j) (by omega)
          refine ⟨_, rfl, .inl ⟨rfl, _, .inl (.inl g2)⟩, l2, _, _, rfl, rfl, g2, y2, ?_⟩
          refine ⟨_, _, rfl, Same.mutd s4 f2, by rw [upd_ne ne]; exact g1, by rw [upd_same, y3], ?_⟩
          rw [if_neg (Nat.succ_ne_zero j), Nat.add_sub_cancel, y1]
        · obtain ⟨e1, tn, rfl, s4, g1, g2, ge⟩ := pv
          have ge2 : e1 = (e : Nat) := by rw [ge, ee]
          subst ge2
          -- found[place] = end; whole.append(end)
          have esz : t.sz - i = p + 1 := by omega
          refine ⟨_, rfl, _, rfl, _, rfl, l1, _, _, p, rfl, rfl, g1, ?_, ?_⟩
          · unfold ixN
            rw [if_pos (by omega), if_pos (by simp; omega), Int.toNat_natCast]
          have s5 : Same H (upd H'' l1 (.lst (((List.replicate (t.sz - i) 0 ++ fo).map iV).set p (.int (e : Nat))))) := Same.mutd s4 f1
          have g3 : (upd H'' l1 (.lst (((List.replicate (t.sz - i) 0 ++ fo).map iV).set p (.int (e : Nat))))) l2 = some (.lst ((st.drop (n)).reverse.map iV)) := by
            rw [upd_ne ne.symm]
            exact g2
          have hst : (st.drop (n)).length ≤ 1000 := by
            have := congrArg List.length ea.st
            rw [Tm.fs_len] at this
            have hts : ts.length ≤ 1000 := by
              have z1 : ∀ us : List (Tm.T Nm), us.length ≤ (Tm.fw us).length := by
                intro us
                induction us with
                | nil => exact Nat.le_refl _
                | cons v r ih =>
                  have := Tm.sz_pos v
                  simp only [Tm.fw, List.length_append, List.length_cons, Tm.ws_len]
                  omega
              have z2 := z1 ts
              rw [← ea.wd, List.length_drop, Tm.ws_len] at z2
              omega
            rw [List.length_drop]
            omega
          refine ⟨_, rfl, .inl ⟨rfl, _, .inl (.inl g3)⟩, _, rfl, l2, _, _, rfl, rfl, g3, szt (by rw [List.length_map, List.length_reverse]; omega), ?_⟩
          refine ⟨_, _, _, _, _, _, rfl, Same.mutd s5 f2, ?_, ?_, ea'⟩
          · rw [upd_ne ne, upd_same, esz]
            have := set_rep p e fo
            unfold iV at this ⊢
            rw [this, show t.sz - (i + 1) = p by omega]
          · rw [upd_same, List.reverse_cons, List.map_append]
            rfl
    · obtain ⟨pl, e0, tn, fo, st, ts, rfl, s3, h1, h2, ea⟩ := pv
      have e := ea.stop
      rw [Nat.sub_self, List.replicate_zero, List.nil_append, e] at h1
      exact ⟨_, rfl, l1, _, rfl, .inl ⟨.inl (.inl h1), fun l nl => q l _ (s3.newd nl) (.inl (.inl upd_same))⟩⟩
/-! ### shuffles -/
theorem swap_perm {α : Type} (ys : List α) {i o : Nat} {x y : α} (hi : ys[i]? = some x) (ho : ys[o]? = some y) : ((ys.set i y).set o x).Perm ys := by
  obtain ⟨h1, rfl⟩ := List.getElem?_eq_some_iff.mp hi
  obtain ⟨h2, rfl⟩ := List.getElem?_eq_some_iff.mp ho
  have := Array.swap_perm (xs := ys.toArray) (i := i) (j := o) (by simpa using h1) (by simpa using h2)
  rw [Array.swap_def] at this
  simpa [Array.perm_iff_toList_perm] using this
def spMixed (K : PySem.W.Frag) : Sp := fun vs H Q _ => ∃ (z : Pt) (a : Addr) (xs : List V), vs = [.ref z.p, .ref a] ∧ PotAt H z ∧ SqL K H a xs ∧ xs.length ≤ 1000 ∧ ∀ l ys H', ys.Perm xs → H l = none → But z H H' → PotAt H' z → H' l = some (.lst ys) → Q (.ref l) H'
abbrev st_law_mixed : Stmt := topS 34
abbrev nm_law_mixed : List Str := ["_law_pot_here", "_law_items", "_law_line", "_law_at", "_law_other"]
theorem sc_law_mixed : FnScope nm_law_mixed ["_law_pot_here", "_law_items"] (C8.fnScope st_law_mixed) := ⟨rfl, rfl, rfl, by decide +kernel, rfl, by decide +kernel, by decide +kernel⟩
theorem ok_law_mixed (D : Dn K mg "_law_mixed" st_law_mixed ["_law_pot_here", "_law_items"]) (T : Bt mg) (c_law_draw : C8.Cal P w K mg base 1 "_law_draw" spDraw []) : C8.Cal P w K mg base 2 "_law_mixed" (spMixed K) [] := by
  obtain ⟨f, fd, F, b⟩ := D.ex
  have nd := sc_law_mixed.nd
  refine C8.cal0 F b .nil sc_law_mixed (fun vs H Q E h => ?_) (fun cdv A outer s H vs Q E hr h => ?_)
  · obtain ⟨z, a, xs, rfl, _⟩ := h
    rfl
  · obtain ⟨z, a, xs, rfl, hp, hS, hn, q⟩ := h
    refine ⟨_, (pss_cons (ps_set (i := 2) nd rfl (.inl rfl) (pe_callTy call_list_of rfl T.z_list (by decide +kernel) (pa_cons (pv 1) pa_nil)))
      (pss_cons (ps_for PassesOwn.never rfl (pi_range1 rfl T.z_range (pa_cons (pe_callB call_len_seq rfl T.z_len PySem.boot_len (pa_cons (pv 2) pa_nil)) pa_nil)) (pg_name (i := 3) nd rfl (.inl rfl))
        (pss_cons (ps_set (i := 4) nd rfl (.inl rfl) (C8.pe_c c_law_draw hr (by decide) rfl (pa_cons (pv 0) (pa_cons (pe_callB call_len_seq rfl T.z_len PySem.boot_len (pa_cons (pv 2) pa_nil)) pa_nil))))
          (pss_one (ps_asg (pe_tup (pa_cons (pe_ix ix_list (pv 2) (pv 4) (fun _ _ => rfl)) (pa_cons (pe_ix ix_list (pv 2) (pv 3) (fun _ _ => rfl)) pa_nil))) (pg_tup rfl (pgs_cons (pg_sub (pv 2) (pv 3) set_list) (pgs_cons (pg_sub (pv 2) (pv 4) set_list) pgs_nil)))))))
      (pss_one (ps_ret (pv 2))))), ?_⟩
    refine ⟨_, rfl, a, xs, rfl, .inl hS, fun l nl => ?_⟩
    have s1 : Same H (upd H l (.lst xs)) := same_new nl _
    refine ⟨_, rfl, l, _, rfl, .inl (seqL upd_same), _, rfl, by omega, by omega, ?_⟩
    rw [Int.toNat_natCast]
    refine for_range (lo := 0) (n := xs.length) (fun i σ H' => ∃ (at_ o : Option V) (ys : List V), σ = [some (.ref z.p), some (.ref a), some (.ref l), at_, o] ∧ But z H H' ∧ PotAt H' z ∧ H' l = some (.lst ys) ∧ ys.Perm xs) ⟨none, none, xs, rfl, .of s1, hp.same s1, upd_same, .refl _⟩ (fun i σ H' hi pv => ?_) (fun σ H' pv => ?_)
    · obtain ⟨at_, o, ys, rfl, b1, p1, h1, hperm⟩ := pv
      have hl : ys.length = xs.length := hperm.length_eq
      refine ⟨_, rfl, _, rfl, l, _, rfl, .inl (seqL h1), z, ys.length, rfl, by omega, by omega, p1, fun r H2 hr2 b2 p2 => ?_⟩
      have h2 := b2.keep hp nl h1
      have ei : ys[i]? = some ys[i] := List.getElem?_eq_getElem (by omega)
      have er : ys[r]? = some ys[r] := List.getElem?_eq_getElem hr2
      have e0 : (0 : Int) + (i : Nat) = (i : Nat) := by omega
      -- line[at], line[other] = (line[other], line[at])
      refine ⟨_, rfl, _, rfl, l, _, _, _, rfl, rfl, seqL h2, atI_nat er, _, rfl, _, rfl, l, _, _, _, rfl, rfl, seqL h2, at_of e0 ei, szl (by show 2 ≤ 100000; decide), fun tp ntp => ?_⟩
      have s3 := same_new ntp (.tup [ys[r], ys[i]])
      have h3 := s3 _ _ h2
      refine ⟨tp, _, rfl, .inl (.inl upd_same), rfl, _, _, rfl, _, rfl, _, rfl, l, ys, _, i, rfl, rfl, h3, ?_, _, _, rfl, _, rfl, _, rfl, l, _, _, r, rfl, rfl, upd_same, ?_, rfl, ?_⟩
      · rw [e0]
        exact ixn (by omega)
      · exact ixn (by rw [List.length_set]; exact hr2)
      · have b3 : But z H (upd (upd (upd H2 tp (.tup [ys[r], ys[i]])) l (.lst (ys.set i ys[r]))) l (.lst ((ys.set i ys[r]).set r ys[i]))) := ((b1.trans (b2.trans (.of s3))).mutd nl).mutd nl
        exact ⟨_, _, _, rfl, b3, hp.mutd (hp.mutd (p2.same s3) nl) nl, upd_same, (swap_perm ys ei er).trans hperm⟩
    · obtain ⟨at_, o, ys, rfl, b1, p1, h1, hperm⟩ := pv
      exact ⟨_, rfl, q l ys H' hperm nl b1 p1 h1⟩
end Ok
set_option maxRecDepth 100000
set_option maxHeartbeats 4000000
/-! Letters; the law's judges; rests by the law. -/
namespace Ok
open PySem PySem.Spec PyProof.Rows L2 HT
open Tm (Tk T Good Step Star nf)
variable {P : Program} {w : World} {K : PySem.W.Frag} {mg : Str → Option Value} {base : Heap}
theorem lit_abc : ("abcdefghijklmnopqrstuvwxyz" : Str) = SX.S ((List.range 26).map (97 + ·)) := by decide +kernel
theorem lit_nil : ("" : Str) = SX.S [] := by decide +kernel
theorem abc_at {i : Nat} (h : i < 26) : ((List.range 26).map (97 + ·))[i]? = some (97 + i) := by
  rw [List.getElem?_map, List.getElem?_range h]
  rfl
theorem abc_len : ("abcdefghijklmnopqrstuvwxyz" : Str).length ≤ sizeLine := szl (by decide +kernel)
/-- the sign at a place of the abc -/
theorem abc_ix {i : Int} {n : Nat} (e : i = (n : Nat)) (h : n < 26) : atI ("abcdefghijklmnopqrstuvwxyz" : Str).cps.toList i = some (97 + n) := by
  rw [lit_abc, e]
  exact atI_nat (abc_at h)
def spLetters : Sp := fun vs H Q _ => ∃ n : Nat, vs = [.int (n : Nat)] ∧ n < 26 ∧ Q (.str (SX.S [97 + n])) H
abbrev st_law_letters : Stmt := topS 35
abbrev nm_law_letters : List Str := ["_law_number", "_law_found", "_law_left"]
theorem sc_law_letters : FnScope nm_law_letters ["_law_number"] (C8.fnScope st_law_letters) := ⟨rfl, rfl, rfl, by decide +kernel, rfl, by decide +kernel, by decide +kernel⟩
theorem ok_law_letters (D : Dn K mg "_law_letters" st_law_letters ["_law_number"]) (T : Bt mg) : C8.Cal P w K mg base 1 "_law_letters" spLetters [] := by
  obtain ⟨f, fd, F, b⟩ := D.ex
  have nd := sc_law_letters.nd
  refine C8.cal0 F b .nil sc_law_letters (fun vs H Q E h => ?_) (fun cdv A outer s H vs Q E hr h => ?_)
  · obtain ⟨n, rfl, _⟩ := h
    rfl
  · obtain ⟨n, rfl, hn, q⟩ := h
    refine ⟨_, (pss_cons (ps_set (i := 1) nd rfl (.inl rfl) pe_str)
      (pss_cons (ps_set (i := 2) nd rfl (.inl rfl) (pe_op op_add (pv 0) pe_int))
      (pss_cons (ps_while PassesOwn.never (pt_cmpR op_gt (pv 2) pe_int (nomark _))
        (pss_cons (ps_set (i := 2) nd rfl (.inl rfl) (pe_op op_sub (pv 2) pe_int))
          (pss_cons (ps_set (i := 1) nd rfl (.inl rfl) (pe_op op_add_str (pe_ix ix_str pe_str (pe_op op_mod (pe_callTy call_int1 rfl T.z_int (by decide +kernel) (pa_cons (pv 2) pa_nil)) pe_int) (fun _ _ => rfl)) (pv 1)))
          (pss_one (ps_set (i := 2) nd rfl (.inl rfl) (pe_op op_fdiv (pv 2) pe_int))))))
      (pss_one (ps_ret (pv 1)))))), ?_⟩
    refine ⟨_, rfl, _, 1, rfl, rfl, ?_⟩
    refine ⟨fun m σ H' => H' = H ∧ ∃ (x : Str) (l : Int), σ = [some (.int (n : Nat)), some (.str x), some (.int l)] ∧ ((m = 1 ∧ x = SX.S [] ∧ l = (n : Nat) + 1) ∨ (m = 0 ∧ x = SX.S [97 + n] ∧ l = 0)),
      ⟨1, rfl, SX.S [], _, by rw [← lit_nil]; rfl, .inl ⟨rfl, rfl, rfl⟩⟩, fun m σ H' pv => ?_⟩
    obtain ⟨rfl, x, l, rfl, hm⟩ := pv
    rcases hm with ⟨rfl, rfl, rfl⟩ | ⟨rfl, rfl, rfl⟩
    · refine ⟨_, rfl, _, _, rfl, rfl, true, ?_, iteT ?_⟩
      · show V.bl (decide ((0 : Int) < (n : Int) + 1)) = V.bl true
        rw [decide_eq_true (by omega)]
      · refine ⟨fun σ' H'' => ∃ m', m' < 1 ∧ (H'' = H' ∧ ∃ (x : Str) (l : Int), σ' = [some (.int (n : Nat)), some (.str x), some (.int l)] ∧ ((m' = 1 ∧ x = SX.S [] ∧ l = (n : Nat) + 1) ∨ (m' = 0 ∧ x = SX.S [97 + n] ∧ l = 0))), fun _ _ h => h, ?_⟩
        refine ⟨_, rfl, _, 1, rfl, rfl, ?_⟩
        refine ⟨_, rfl, .inl ⟨_, rfl, _, 26, rfl, rfl, (by show (0 : Int) < 26; decide), _, _, _, rfl, rfl, abc_len, abc_ix (n := n) (by omega) hn, _, rfl, _, _, rfl, rfl, ?_, ?_⟩⟩
        · exact szl (by show 1 ≤ 100000; decide)
        · refine ⟨_, rfl, _, 26, rfl, rfl, ⟨by decide, by decide⟩, 0, by decide, rfl, _, _, rfl, .inr ⟨rfl, ?_, by omega⟩⟩
          exact SX.S_cat [97 + n] []
    · refine ⟨_, rfl, 0, 0, rfl, rfl, false, rfl, iteF ⟨_, rfl, q⟩⟩
/-! ### the law's judges -/
def spIsNumber : Sp := fun vs H Q _ => ∃ i : Int, vs = [.int i] ∧ Q (.bl true) H
abbrev st_law_is_number : Stmt := topS 40
abbrev nm_law_is_number : List Str := ["_law_thing"]
theorem sc_law_is_number : FnScope nm_law_is_number ["_law_thing"] (C8.fnScope st_law_is_number) := ⟨rfl, rfl, rfl, by decide +kernel, rfl, by decide +kernel, by decide +kernel⟩
theorem ok_law_is_number (D : Dn K mg "_law_is_number" st_law_is_number ["_law_thing"]) (T : Bt mg) : C8.Cal P w K mg base 1 "_law_is_number" spIsNumber [] := by
  obtain ⟨f, fd, F, b⟩ := D.ex
  have nd := sc_law_is_number.nd
  refine C8.cal0 F b .nil sc_law_is_number (fun vs H Q E h => ?_) (fun cdv A outer s H vs Q E hr h => ?_)
  · obtain ⟨n, rfl, _⟩ := h
    rfl
  · obtain ⟨n, rfl, q⟩ := h
    refine ⟨_, (pss_one (ps_ret (pe_and (pe_callB call_isi rfl T.z_isinstance (by decide +kernel) (pa_cons (pv 0) (pa_cons (pe_bltn (v := .ty "int") rfl T.z_int (by decide +kernel) rfl) pa_nil))) (pe_one (pe_not (pe_callB call_isi rfl T.z_isinstance (by decide +kernel) (pa_cons (pv 0) (pa_cons (pe_bltn (v := .ty "bool") rfl T.z_bool (by decide +kernel) rfl) pa_nil)))))))), ?_⟩
    refine ⟨_, rfl, _, _, .type "int", .type "int", true, rfl, .ty _, .base (.int _), kit_ty (by decide +kernel), true, rfl, iteT ?_⟩
    exact ⟨_, rfl, _, _, .type "int", .type "bool", false, rfl, .ty _, .base (.int _), kit_ty (by decide +kernel), false, rfl, q⟩
/-- words as data -/
def dW (ws : List Wd) : PyData := .tuple (ws.map fun k => .str (enc k))
theorem dW_all {H : Hp} : ∀ ws : List Wd, DpAll K H (ws.map eV) (ws.map fun k => .str (enc k))
  | [] => .nil
  | k :: ws => .cons (.str _) (dW_all ws)
theorem dW_of {H : Hp} {a : Addr} {ws : List Wd} (h : SqT K H a (ws.map eV)) : Dp K H (.ref a) (dW ws) := .tup h (dW_all ws)
theorem enc_ok {k : Wd} (h : OkW k) : PyData.strOk (enc k) = true := by
  have key : ∀ l : List Nat, (∀ c ∈ l, c < 0x110000) → PyData.strOk (SX.S l) = true := fun l hl => by
    show (l.toArray).all (· < 0x110000) = true
    rw [List.all_toArray, List.all_eq_true]
    intro c hc
    exact decide_eq_true (hl c hc)
  cases k with
  | g => exact key _ (by decide)
  | t x =>
    refine key _ fun c hc => ?_
    rcases List.mem_cons.mp hc with e | hc
    · omega
    · have := h.2.2 c hc
      omega
  | u x =>
    refine key _ fun c hc => ?_
    have := h.2.2 c hc
    omega
theorem dW_shaped {ws : List Wd} (h : ∀ k ∈ ws, OkW k) : SeqAt.shaped (dW ws) = true := by
  have h1 : ∀ ws : List Wd, (∀ k ∈ ws, OkW k) → PyData.canLayAll0 (ws.map fun k => .str (enc k)) = true := by
    intro ws
    induction ws with
    | nil => exact fun _ => rfl
    | cons k ws ih =>
      intro h
      show (PyData.strOk (enc k) && PyData.canLayAll0 (ws.map fun k => .str (enc k))) = true
      rw [enc_ok (h k List.mem_cons_self), ih fun j hj => h j (List.mem_cons_of_mem _ hj)]
      rfl
  have h2 : ∀ ws : List Wd, PyData.depthAll (ws.map fun k => .str (enc k)) = 0 := by
    intro ws
    induction ws with
    | nil => rfl
    | cons k ws ih =>
      show max 0 (PyData.depthAll (ws.map fun k => .str (enc k))) = 0
      rw [ih]
      rfl
  show (PyData.canLayAll0 (ws.map fun k => .str (enc k)) && decide (PyData.depthAll (ws.map fun k => .str (enc k)) + 1 ≤ 64)) = true
  rw [h1 ws h, h2]
  rfl
theorem dW_refl {ws : List Wd} (h : ∀ k ∈ ws, OkW k) : PyData.eqv (dW ws) (dW ws) = true := SeqAt.eqv_refl _ (SeqAt.canLay_of_shaped (dW_shaped h))
/-- a rest's object, and its due words -/
def spIsWords (K : PySem.W.Frag) (CR : Addr) : Sp := fun vs H Q _ => ∃ (x a dx b : Addr) (ws : List Wd), vs = [.ref x, .ref a] ∧ (∀ k ∈ ws, OkW k) ∧ H x = some (.ins CR dx [("words", .ref b)]) ∧ SqT K H b (ws.map eV) ∧ SqT K H a (ws.map eV) ∧ Q (.bl true) H
abbrev st_law_is_words : Stmt := topS 41
abbrev nm_law_is_words : List Str := ["_law_thing", "_law_due"]
theorem sc_law_is_words : FnScope nm_law_is_words ["_law_thing", "_law_due"] (C8.fnScope st_law_is_words) := ⟨rfl, rfl, rfl, by decide +kernel, rfl, by decide +kernel, by decide +kernel⟩
theorem ok_law_is_words {CP CR : Addr} (D : Dn K mg "_law_is_words" st_law_is_words ["_law_thing", "_law_due"]) (T : Bt mg) (ct : Ct K mg CP CR) : C8.Cal P w K mg base 1 "_law_is_words" (spIsWords K CR) [] := by
  obtain ⟨f, fd, F, b⟩ := D.ex
  have nd := sc_law_is_words.nd
  refine C8.cal0 F b .nil sc_law_is_words (fun vs H Q E h => ?_) (fun cdv A outer s H vs Q E hr h => ?_)
  · obtain ⟨x, a, dx, b, ws, rfl, _⟩ := h
    rfl
  · obtain ⟨x, a, dx, b, ws, rfl, hk, hx, hb, ha, q⟩ := h
    refine ⟨_, (pss_one (ps_ret (pe_and (pe_callB call_isi rfl T.z_isinstance (by decide +kernel) (pa_cons (pv 0) (pa_cons (C8.pe_gc rfl ct.gProgram) pa_nil))) (pe_and (pe_callB call_isi rfl T.z_isinstance (by decide +kernel) (pa_cons (pe_fld (pv 0) rfl) (pa_cons (pe_bltn (v := .ty "tuple") rfl T.z_tuple (by decide +kernel) rfl) pa_nil))) (pe_one (pe_cmpR (op_eqD hr.units) (pe_fld (pv 0) rfl) (pv 1) (nomark _))))))), ?_⟩
    refine ⟨_, rfl, _, _, .ref CR, .ref CP, true, rfl, .own _, .base (.ins hx ct.clR ct.ha ct.hn ct.htk ct.hm), ct.me, true, rfl, iteT ?_⟩
    refine ⟨_, rfl, x, CR, dx, _, _, rfl, hx, ct.clR, ct.nR, look_words b, _, _, .type "tuple", .type "tuple", true, rfl, .ty _, tup_ty hb, kit_ty (by decide +kernel), true, rfl, iteT ?_⟩
    refine ⟨_, rfl, x, CR, dx, _, _, rfl, hx, ct.clR, ct.nR, look_words b, _, rfl, dW ws, dW ws, dW_of hb, dW_of ha, dW_shaped hk, dW_shaped hk, ?_⟩
    rw [dW_refl hk]
    exact q
def spRested (K : PySem.W.Frag) : Sp := fun vs H Q _ => ∃ a t, vs = [.ref a] ∧ Pg t ∧ t.sz ≤ 1000 ∧ Wds K H a t ∧ ∀ b H', Same H H' → Wds K H' b (nf t) → (Zd H a → Zd H' b) → Q (.ref b) H'
/-- Program(words): a new program object -/
theorem made_prog {CP CR : Addr} {H1 H2 H3 : Hp} {x dx a : Addr} {t : T Nm} (nx : H1 x = none) (ndx : H1 dx = none) (ne : dx ≠ x) (hw : Wds K H1 a t) (s : Same (upd (upd H1 dx (.own x)) x (.ins CP dx [])) H2) (e : H3 = upd H2 x (.ins CP dx [("words", .ref a)])) :
    Same H1 H3 ∧ IsP K CP CR H3 x t := by
  subst e
  have s0 : Same H1 (upd (upd H1 dx (.own x)) x (.ins CP dx [])) := (same_new ndx _).newd (by rw [upd_ne ne.symm]; exact nx)
  exact ⟨made_same nx ndx s, CP, dx, a, .inl rfl, upd_same, sqT_upd ((hw.same s0).same s) (s _ _ upd_same)⟩
abbrev st_law_rested : Stmt := topS 42
abbrev nm_law_rested : List Str := ["_law_words_here", "_law_told"]
theorem sc_law_rested : FnScope nm_law_rested ["_law_words_here"] (C8.fnScope st_law_rested) := ⟨rfl, rfl, rfl, by decide +kernel, rfl, by decide +kernel, by decide +kernel⟩
theorem ok_law_rested {CP CR : Addr} (D : Dn K mg "_law_rested" st_law_rested ["_law_words_here"]) (T : Bt mg) (ct : Ct K mg CP CR) (c_rest : C8.Cal P w K mg base 7 "rest" (spRest K CP CR) []) (c_Program : C8.Mak P w K mg base 6 "Program" CP (spInit K CP) []) : C8.Cal P w K mg base 8 "_law_rested" (spRested K) [] := by
  obtain ⟨f, fd, F, b⟩ := D.ex
  have nd := sc_law_rested.nd
  refine C8.cal0 F b .nil sc_law_rested (fun vs H Q E h => ?_) (fun cdv A outer s H vs Q E hr h => ?_)
  · obtain ⟨a, t, rfl, _⟩ := h
    rfl
  · obtain ⟨a, t, rfl, hp, hz, hw, q⟩ := h
    refine ⟨_, (pss_cons (ps_set (i := 1) nd rfl (.inl rfl) (C8.pe_c c_rest hr (by decide) rfl (pa_cons (C8.pe_mk c_Program hr (by decide) rfl (pa_cons (pv 0) pa_nil)) pa_nil)))
      (pss_one (ps_ret (pe_ifExp (pt_val (pe_callB call_isi rfl T.z_isinstance (by decide +kernel) (pa_cons (pv 1) (pa_cons (C8.pe_gc rfl ct.gProgram) pa_nil)))) (pe_fld (pv 1) rfl) pe_non)))), ?_⟩
    refine ⟨_, rfl, fun x dx nx ndx ne => ⟨x, a, dx, t, rfl, upd_same, hp, hz, hw.same ((same_new ndx _).newd (by rw [upd_ne ne.symm]; exact nx)), fun H1 H2 s1 e2 => ⟨rfl, ?_⟩⟩⟩
    obtain ⟨s2, hx⟩ := made_prog (CR := CR) nx ndx ne hw s1 e2
    refine ⟨x, t, rfl, hp, hz, hx, fun y dy b H3 s3 hy hb hzb => ?_⟩
    refine ⟨_, rfl, _, _, .ref CR, .ref CP, true, rfl, .own _, .base (.ins hy ct.clR ct.ha ct.hn ct.htk ct.hm), ct.me, true, rfl, iteT ?_⟩
    refine ⟨_, rfl, y, CR, dy, _, _, rfl, hy, ct.clR, ct.nR, look_words b, q b H3 (s2.trans s3) hb fun z => hzb fun C' dx' a' h => ?_⟩
    rw [e2, upd_same] at h
    injection h with h
    injection h with _ _ h
    injection h with h _
    injection h with _ h
    injection h with h
    subst h
    exact z.same s2
end Ok
set_option maxRecDepth 100000
set_option maxHeartbeats 4000000
/-! Programs drawn. -/
namespace Ok
open PySem PySem.Spec PyProof.Rows L2 HT
open Tm (Tk T Good Step Star nf)
variable {P : Program} {w : World} {K : PySem.W.Frag} {mg : Str → Option Value} {base : Heap}
/-- a name as a value -/
def sV (x : Nm) : V := .str (SX.S x)
theorem dI {i j : Int} {b : Bool} (h : decide (i = j) = b) : V.bl (decide (V.int i = V.int j)) = V.bl b := by
  rw [← h]
  congr 1
  exact decide_eq_decide.mpr ⟨fun z => V.int.inj z, fun z => congrArg V.int z⟩
/-- a drawn program: its open names, its givens, its takes' names by number -/
structure GenOk (names : List Nm) (n m : Nat) (t : T Nm) : Prop where
  ok : t.ok
  oc : t.occ.Perm (names ++ t.bnd)
  gv : t.gv = n
  bl : t.bnd.length + names.length = n + 1
  nm : ∀ i x, t.bnd[i]? = some x → x = [97 + (m + i)] ∨ x = [113, 97 + (m + i)]
theorem GenOk.leaf (x : Nm) (m : Nat) : GenOk [x] 0 m (.var x) := ⟨trivial, .refl _, rfl, rfl, fun i y h => by simp [Tm.T.bnd] at h⟩
theorem GenOk.take {names : List Nm} {n m : Nat} {x : Nm} {b : T Nm} (h : GenOk (names ++ [x]) n (m + 1) b) (hx : x = [97 + m] ∨ x = [113, 97 + m]) : GenOk names n m (.lam x b) := by
  refine ⟨⟨h.oc.symm.subset (by simp), h.ok⟩, ?_, h.gv, ?_, fun i y hy => ?_⟩
  · have := h.oc
    rw [List.append_assoc] at this
    exact this
  · have := h.bl
    simp only [List.length_append, List.length_singleton] at this
    show b.bnd.length + 1 + names.length = n + 1
    omega
  · cases i with
    | zero =>
      have e : x = y := Option.some.inj hy
      subst e
      exact hx
    | succ i =>
      have := h.nm i y hy
      rw [show m + (i + 1) = m + 1 + i by omega]
      exact this
theorem GenOk.give {names f l : List Nm} {n n1 n2 m : Nat} {t u : T Nm} (h1 : GenOk f n1 m t) (h2 : GenOk l n2 (m + t.bnd.length) u) (hp : (f ++ l).Perm names) (hn : n1 + n2 + 1 = n) : GenOk names n m (.app t u) := by
  have hl := hp.length_eq
  rw [List.length_append] at hl
  have b1 := h1.bl
  have b2 := h2.bl
  refine ⟨⟨h1.ok, h2.ok⟩, ?_, ?_, ?_, fun i y hy => ?_⟩
  · show (t.occ ++ u.occ).Perm (names ++ (t.bnd ++ u.bnd))
    refine (List.Perm.append h1.oc h2.oc).trans ?_
    refine List.Perm.trans ?_ (List.Perm.append_right _ hp)
    rw [List.append_assoc, List.append_assoc]
    refine List.Perm.append_left f ?_
    rw [← List.append_assoc, ← List.append_assoc]
    exact List.Perm.append_right _ List.perm_append_comm
  · show t.gv + u.gv + 1 = n
    rw [h1.gv, h2.gv]
    exact hn
  · show (t.bnd ++ u.bnd).length + names.length = n + 1
    rw [List.length_append]
    omega
  · have hy' : (t.bnd ++ u.bnd)[i]? = some y := hy
    by_cases hi : i < t.bnd.length
    · rw [List.getElem?_append_left hi] at hy'
      exact h1.nm i y hy'
    · rw [List.getElem?_append_right (by omega)] at hy'
      have := h2.nm _ y hy'
      rw [show m + t.bnd.length + (i - t.bnd.length) = m + i by omega] at this
      exact this
theorem unS_perm {ys : List V} {names : List Nm} (h : ys.Perm (names.map sV)) : ∃ row : List Nm, ys = row.map sV ∧ row.Perm names := by
  let un : V → Nm := fun v => match v with
    | .str z => z.cps.toList
    | _ => []
  have hu : ∀ x : Nm, un (sV x) = x := fun x => rfl
  refine ⟨ys.map un, ?_, ?_⟩
  · rw [List.map_map]
    have : ∀ y ∈ ys, (sV ∘ un) y = y := fun y hy => by
      obtain ⟨x, _, rfl⟩ := List.mem_map.mp (h.subset hy)
      rfl
    exact ((List.map_congr_left this).trans (List.map_id ys)).symm
  · have := h.map un
    rw [List.map_map] at this
    have e : names.map (un ∘ sV) = names := (List.map_congr_left fun x _ => hu x).trans (List.map_id names)
    rw [e] at this
    exact this
/-- all but the pot and one list stays -/
def ButU (z : Pt) (u : Addr) (H H' : Hp) : Prop := ∀ b o, b ≠ z.p → b ≠ z.ga → b ≠ u → H b = some o → H' b = some o
theorem ButU.of {z : Pt} {u : Addr} {H H' : Hp} (s : But z H H') : ButU z u H H' := fun b o h1 h2 _ h => s b o h1 h2 h
theorem ButU.trans {z : Pt} {u : Addr} {H H1 H2 : Hp} (a : ButU z u H H1) (b : ButU z u H1 H2) : ButU z u H H2 := fun c o h1 h2 h3 h => b c o h1 h2 h3 (a c o h1 h2 h3 h)
theorem ButU.tup {z : Pt} {u : Addr} {us : List V} {H H' : Hp} (s : ButU z u H H') (h : PotAt H z) (hu : H u = some (.lst us)) {a : Addr} {xs : List V} (q : SqT K H a xs) : SqT K H' a xs := by
  obtain ⟨gs, ss, t, m, h1, h2, h3, h4, h5⟩ := h
  rcases q with (q | ⟨ob, q⟩) | q
  · exact .inl (.inl (s _ _ (ne_of q h1 (by intro z; cases z)) (ne_of q h2 (by intro z; cases z)) (ne_of q hu (by intro z; cases z)) q))
  · exact .inl (.inr ⟨ob, s _ _ (ne_of q h1 (by intro z; cases z)) (ne_of q h2 (by intro z; cases z)) (ne_of q hu (by intro z; cases z)) q⟩)
  · exact .inr q
/-- a list beside the pot -/
structure Beside (z : Pt) (u : Addr) : Prop where
  p : u ≠ z.p
  g : u ≠ z.ga
  s : u ≠ z.sa
theorem Beside.new {z : Pt} {u : Addr} {H : Hp} (h : PotAt H z) (n : H u = none) : Beside z u := by
  obtain ⟨gs, ss, t, m, h1, h2, h3, h4, h5⟩ := h
  exact ⟨(ne_of_none h1 n).symm, (ne_of_none h2 n).symm, (ne_of_none h3 n).symm⟩
theorem PotAt.upd {H : Hp} {z : Pt} {u : Addr} {o : HO} (h : PotAt H z) (b : Beside z u) : PotAt (upd H u o) z := by
  obtain ⟨gs, ss, t, m, h1, h2, h3, h4, h5⟩ := h
  exact ⟨gs, ss, t, m, by rw [upd_ne b.p.symm]; exact h1, by rw [upd_ne b.g.symm]; exact h2, by rw [upd_ne b.s.symm]; exact h3, h4, h5⟩
def spWords (K : PySem.W.Frag) (N : Nat) : Sp := fun vs H Q _ => ∃ (z : Pt) (a u : Addr) (names : List Nm) (n m : Nat) (us : List V), vs = [.ref z.p, .ref a, .int (n : Nat), .ref u] ∧ PotAt H z ∧ SqT K H a (names.map sV) ∧ H u = some (.lst us) ∧ us.length = m ∧ Beside z u ∧
  names.length ≤ n + 1 ∧ m + (n + 1) ≤ 20 + names.length ∧ n ≤ 100 ∧ 3 * n + 2 ≤ N + names.length ∧
  ∀ t b H' us', GenOk names n m t → ButU z u H H' → PotAt H' z → H' u = some (.lst us') → us'.length = m + t.bnd.length → Wds K H' b t → Q (.ref b) H'
theorem GenOk.sz {names : List Nm} {n m : Nat} {t : T Nm} (h : GenOk names n m t) : t.sz + names.length = 3 * n + 2 := by
  have key : ∀ t : T Nm, t.sz = 2 * t.gv + 1 + t.bnd.length := by
    intro t
    induction t with
    | var x => rfl
    | app f a h1 h2 =>
      simp only [Tm.T.sz, Tm.T.gv, Tm.T.bnd, List.length_append]
      omega
    | lam x b ih =>
      simp only [Tm.T.sz, Tm.T.gv, Tm.T.bnd, List.length_cons]
      omega
  have h1 := key t
  have h2 := h.bl
  rw [h.gv] at h1
  omega
abbrev st_law_words : Stmt := topS 36
abbrev nm_law_words : List Str := ["_law_pot_here", "_law_names", "_law_givens", "_law_used", "_law_name", "_law_row", "_law_least", "_law_cut", "_law_first", "_law_last", "_law_low", "_law_more", "_law_one"]
theorem sc_law_words : FnScope nm_law_words ["_law_pot_here", "_law_names", "_law_givens", "_law_used"] (C8.fnScope st_law_words) := ⟨rfl, rfl, rfl, by decide +kernel, rfl, by decide +kernel, by decide +kernel⟩
theorem ok_law_words_0 (D : Dn K mg "_law_words" st_law_words ["_law_pot_here", "_law_names", "_law_givens", "_law_used"]) : C8.Cal P w K mg base 3 "_law_words" (spWords K 0) [] := by
  obtain ⟨f, fd, F, b⟩ := D.ex
  have no : ∀ vs H Q E, ¬ spWords K 0 vs H Q E := fun vs H Q E h => by
    obtain ⟨z, a, u, names, n, m, us, _, _, _, _, _, _, h1, _, _, h2, _⟩ := h
    omega
  exact ⟨f, fd, _, [], ⟨fun vs H Q E h => absurd h (no vs H Q E), fun A outer s H args us vs Q E _ _ _ _ h => absurd h (no vs H Q E)⟩, F.mgf, F.kp, b, .nil⟩
theorem ok_law_words_s {N : Nat} (D : Dn K mg "_law_words" st_law_words ["_law_pot_here", "_law_names", "_law_givens", "_law_used"]) (T : Bt mg) (c_law_draw : C8.Cal P w K mg base 1 "_law_draw" spDraw []) (c_law_letters : C8.Cal P w K mg base 1 "_law_letters" spLetters [])
    (c_law_mixed : C8.Cal P w K mg base 2 "_law_mixed" (spMixed K) []) (c_law_words : C8.Cal P w K mg base (3 + N) "_law_words" (spWords K N) []) : C8.Cal P w K mg base (3 + N + 1) "_law_words" (spWords K (N + 1)) [] := by
  obtain ⟨f, fd, F, b⟩ := D.ex
  have nd := sc_law_words.nd
  refine C8.cal0 F b .nil sc_law_words (fun vs H Q E h => ?_) (fun cdv A outer s H vs Q E hr h => ?_)
  · obtain ⟨z, a, u, names, n, m, us, rfl, _⟩ := h
    rfl
  · obtain ⟨z, a, u, names, n, m, us, rfl, hp, hS, hu, hm, hB, hk, hm2, hn, hN, q⟩ := h
    have two := Nat.le_refl 2
    refine ⟨_, (pss_cons (ps_if (PW.pt (pw_and (pt_cmpR op_eq (pv 2) pe_int (nomark _)) (pw_and1 (pt_cmpR op_eq (pe_callB call_len_seq rfl T.z_len PySem.boot_len (pa_cons (pv 1) pa_nil)) pe_int (nomark _)))))
        (pss_one (ps_ret (pe_tup (pa_cons (pe_ix ix_tup (pv 1) pe_int (fun _ _ => rfl)) pa_nil))))
        pss_nil)
      (C8.pss_cut (ps_if (PW.pt (pw_or (PW.pt (pw_and (pt_cmpR op_le (pe_callB call_len_seq rfl T.z_len PySem.boot_len (pa_cons (pv 1) pa_nil)) (pv 2) (nomark _)) (pw_and1 (pt_cmpR op_eq (C8.pe_c c_law_draw hr (by omega) rfl (pa_cons (pv 0) (pa_cons pe_int pa_nil))) pe_int (nomark _))))) (pw_or1 (pt_cmpR op_eq (pv 2) pe_int (nomark _)))))
        (C8.pss_cut (ps_set (i := 4) nd rfl (.inl rfl) (pe_ifExp (pt_cmpR op_gt (C8.pe_c c_law_draw hr (by omega) rfl (pa_cons (pv 0) (pa_cons pe_int pa_nil))) pe_int (nomark _)) (C8.pe_c c_law_letters hr (by omega) rfl (pa_cons (pe_callB call_len_seq rfl T.z_len PySem.boot_len (pa_cons (pv 3) pa_nil)) pa_nil)) (pe_op op_add_str pe_str (C8.pe_c c_law_letters hr (by omega) rfl (pa_cons (pe_callB call_len_seq rfl T.z_len PySem.boot_len (pa_cons (pv 3) pa_nil)) pa_nil)))))
          (pss_cons (ps_expr (pe_bm PySem.F.plainAttrs_list PySem.F.slot_list_append PySem.F.type_list_append mt_append (pv 3) (pa_cons (pv 4) pa_nil)))
          (pss_one (ps_ret (pe_op op_catS (pe_tup (pa_cons (pe_op op_add_str pe_str (pv 4)) pa_nil)) (C8.pe_c c_law_words hr (by omega) rfl (pa_cons (pv 0) (pa_cons (pe_op op_catS (pv 1) (pe_tup (pa_cons (pv 4) pa_nil))) (pa_cons (pv 2) (pa_cons (pv 3) pa_nil))))))))))
        pss_nil)
      (pss_cons (ps_set (i := 5) nd rfl (.inl rfl) (C8.pe_c c_law_mixed hr (by omega) rfl (pa_cons (pv 0) (pa_cons (pe_callTy call_list_of rfl T.z_list (by decide +kernel) (pa_cons (pv 1) pa_nil)) pa_nil))))
      (pss_cons (ps_set (i := 6) nd rfl (.inl rfl) (pe_callB (call_max2 rfl) rfl T.z_max (by decide +kernel) (pa_cons pe_int (pa_cons (pe_op op_sub (pe_callB call_len_seq rfl T.z_len PySem.boot_len (pa_cons (pv 5) pa_nil)) (pv 2)) pa_nil))))
      (C8.pss_cut (ps_set (i := 7) nd rfl (.inl rfl) (pe_op op_add (pv 6) (C8.pe_c c_law_draw hr (by omega) rfl (pa_cons (pv 0) (pa_cons (pe_op op_add (pe_op op_sub (pe_callB (call_min2 rfl) rfl T.z_min (by decide +kernel) (pa_cons (pe_callB call_len_seq rfl T.z_len PySem.boot_len (pa_cons (pv 5) pa_nil)) (pa_cons (pv 2) pa_nil))) (pv 6)) pe_int) pa_nil)))))
      (pss_cons (ps_par (i := 8) (j := 9) rfl nd rfl rfl (by decide) rfl rfl (pa_cons (pe_callTy call_tuple_of rfl T.z_tuple (by decide +kernel) (pa_cons (pe_slice sl_list (pv 5) po_none (po_some (pv 7))) pa_nil)) (pa_cons (pe_callTy call_tuple_of rfl T.z_tuple (by decide +kernel) (pa_cons (pe_slice sl_list (pv 5) (po_some (pv 7)) po_none) pa_nil)) pa_nil)) rfl)
      (pss_cons (ps_set (i := 10) nd rfl (.inl rfl) (pe_callB (call_max2 rfl) rfl T.z_max (by decide +kernel) (pa_cons pe_int (pa_cons (pe_op op_sub (pv 7) pe_int) pa_nil))))
      (C8.pss_cut (ps_set (i := 11) nd rfl (.inl rfl) (pe_op op_add (pv 10) (C8.pe_c c_law_draw hr (by omega) rfl (pa_cons (pv 0) (pa_cons (pe_op op_add (pe_op op_sub (pe_op op_sub (pe_op op_sub (pv 2) pe_int) (pe_callB (call_max2 rfl) rfl T.z_max (by decide +kernel) (pa_cons pe_int (pa_cons (pe_op op_sub (pe_callB call_len_seq rfl T.z_len PySem.boot_len (pa_cons (pv 9) pa_nil)) pe_int) pa_nil)))) (pv 10)) pe_int) pa_nil)))))
      (pss_cons (ps_set (i := 12) nd rfl (.inl rfl) (C8.pe_c c_law_words hr (by omega) rfl (pa_cons (pv 0) (pa_cons (pv 8) (pa_cons (pv 11) (pa_cons (pv 3) pa_nil))))))
      (pss_one (ps_ret (pe_op op_catS (pe_op op_catS (pe_tup (pa_cons pe_str pa_nil)) (pv 12)) (C8.pe_c c_law_words hr (by omega) rfl (pa_cons (pv 0) (pa_cons (pv 9) (pa_cons (pe_op op_sub (pe_op op_sub (pv 2) pe_int) (pv 11)) (pa_cons (pv 3) pa_nil))))))))))))))))), ?_⟩
    have hlen : (names.map sV).length = names.length := List.length_map _
    by_cases hn0 : n = 0
    · subst hn0
      refine ⟨_, rfl, rfl, true, dI rfl, iteT ?_⟩
      refine ⟨_, rfl, a, _, rfl, .inr hS, rfl, decide (names.length = 1), dI (decide_eq_decide.mpr (by rw [hlen]; omega)), ?_⟩
      by_cases hk1 : names.length = 1
      · rw [decide_eq_true hk1]
        obtain ⟨x, rfl⟩ := List.length_eq_one_iff.mp hk1
        refine iteT ⟨_, rfl, a, _, 0, sV x, rfl, rfl, hS, atI_nat (j := 0) rfl, szl (by show 1 ≤ 100000; decide), fun b nb => ?_⟩
        have s1 : Same H (upd H b (.tup [sV x])) := same_new nb _
        exact q (.var x) b _ us (.leaf x m) (.of (.of s1)) (hp.same s1) (s1 _ _ hu) hm (.inl (.inl upd_same))
      · rw [decide_eq_false hk1]
        have hk0 : names = [] := List.length_eq_zero_iff.mp (by omega)
        subst hk0
        refine iteF ?_
        refine ⟨fun _ _ => False, ?_, fun _ _ h => h.elim⟩
        refine ⟨_, rfl, a, _, rfl, .inr hS, _, rfl, _, _, rfl, rfl, true, rfl, iteT ?_⟩
        refine ⟨_, rfl, z, 2, rfl, by decide, by decide, hp, fun r H1 hr1 b1 p1 => ⟨rfl, decide (r = 0), dI (decide_eq_decide.mpr (by omega)), ?_⟩⟩
        have hle : ([] : List Nm).length ≤ 0 := Nat.le_refl _
        by_cases hr0 : r = 0
        · rw [decide_eq_true hr0]
          refine iteT (iteT ?_)
          have hS1 := b1.tup hp hS
          have hu1 : H1 u = some (.lst us) := b1 _ _ hB.p hB.g hu
          -- name = ..
          refine ⟨fun σ' H2 => ∃ x : Nm, (x = [97 + m] ∨ x = [113, 97 + m]) ∧ σ' = [some (.ref z.p), some (.ref a), some (.int (0 : Nat)), some (.ref u), some (sV x), none, none, none, none, none, none, none, none] ∧ But z H1 H2 ∧ PotAt H2 z, ?_, fun σ' H2 hmid => ?_⟩
          · refine ⟨_, rfl, z, 4, rfl, by decide, by decide, p1, fun r2 H2 hr2 b2 p2 => ⟨_, _, rfl, rfl, decide (0 < r2), ?_, ?_⟩⟩
            · show V.bl (decide ((0 : Int) < (r2 : Int))) = V.bl (decide (0 < r2))
              rw [decide_eq_decide.mpr (show (0 : Int) < (r2 : Int) ↔ 0 < r2 by omega)]
            have hu2 : H2 u = some (.lst us) := b2 _ _ hB.p hB.g hu1
            by_cases hr3 : 0 < r2
            · rw [decide_eq_true hr3]
              exact iteT ⟨_, rfl, u, _, rfl, .inl (seqL hu2), m, by rw [hm]; rfl, by first | omega | (simp only [List.length_nil] at *; omega), _, .inl rfl, rfl, b2, p2⟩
            · rw [decide_eq_false hr3]
              refine iteF ⟨_, rfl, u, _, rfl, .inl (seqL hu2), m, by rw [hm]; rfl, by first | omega | (simp only [List.length_nil] at *; omega), _, _, rfl, rfl, szl (by show 1 + 1 ≤ 100000; decide), [113, 97 + m], .inr rfl, ?_, b2, p2⟩
              have e : (("q" : Str) ++ SX.S [97 + m]) = SX.S [113, 97 + m] := by
                rw [show ("q" : Str) = SX.S [113] by decide +kernel, SX.S_cat]
                rfl
              rw [e]
              rfl
          obtain ⟨x, hx, rfl, b2, p2⟩ := hmid
          have hu2 : H2 u = some (.lst us) := b2 _ _ hB.p hB.g hu1
          have hS2 := b2.tup p1 hS1
          have hxl : x.length ≤ 2 := by rcases hx with rfl | rfl <;> simp
          -- used.append(name)
          refine ⟨_, rfl, .inl ⟨rfl, _, seqL hu2⟩, _, rfl, u, us, _, rfl, rfl, hu2, szt (by first | omega | (simp only [List.length_nil] at *; omega)), ?_⟩
          have hu3 : (upd H2 u (.lst (us ++ [sV x]))) u = some (.lst (us ++ [sV x])) := upd_same
          have p3 : PotAt (upd H2 u (.lst (us ++ [sV x]))) z := p2.upd hB
          have bU : ButU z u H (upd H2 u (.lst (us ++ [sV x]))) := fun c o h1 h2 h3 h => by rw [upd_ne h3]; exact b2 c o h1 h2 (b1 c o h1 h2 h)
          have hS3 : SqT K (upd H2 u (.lst (us ++ [sV x]))) a (([] : List Nm).map sV) := bU.tup hp hu hS
          -- ("/" + name,)
          refine ⟨_, rfl, _, _, rfl, rfl, szl (by show 1 + (SX.S x).length ≤ 100000; rw [SX.S_len]; omega), szl (by show 1 ≤ 100000; decide), fun tp ntp => ?_⟩
          have s4 := same_new ntp (.tup [.str (("/" : Str) ++ SX.S x)])
          have e4 : (("/" : Str) ++ SX.S x) = enc (.t x) := by
            rw [lit_sl, SX.S_cat]
            rfl
          -- names + (name,)
          refine ⟨_, rfl, _, rfl, _, rfl, szl (by show 1 ≤ 100000; decide), fun tq ntq => ?_⟩
          have s5 := s4.newd (o := .tup [sV x]) ntq
          refine ⟨a, tq, _, _, rfl, rfl, s5.tupd hS3, .inl (.inl upd_same), szl (by simp only [List.length_map, List.length_nil, List.length_cons] at *; omega), fun a2 H6 s6 w6 => ?_⟩
          have s36 := s5.trans s6
          have w6' : SqT K H6 a2 ((([] : List Nm) ++ [x]).map sV) := by
            rw [List.map_append]
            exact w6
          refine ⟨_, rfl, _, rfl, z, a2, u, ([] : List Nm) ++ [x], 0, m + 1, us ++ [sV x], rfl, p3.same s36, w6', s36 _ _ hu3, by rw [List.length_append, List.length_singleton, hm], hB, by simp only [List.length_append, List.length_singleton, List.length_nil] at *; omega, by simp only [List.length_append, List.length_singleton, List.length_nil] at *; omega, by omega, by simp only [List.length_append, List.length_singleton, List.length_nil] at *; omega, fun t b H7 us' ht bu7 p7 hu7 hl7 hw7 => ?_⟩
          have htp : SqT K H7 tp [eV (.t x)] := bu7.tup (p3.same s36) (s36 _ _ hu3) (.inl (.inl (by
            have h6 := s6 _ _ (same_new ntq (.tup [sV x]) tp _ upd_same)
            rw [e4] at h6
            exact h6)))
          have hz := ht.sz
          refine ⟨tp, b, _, _, rfl, rfl, htp, hw7, szl (by rw [List.length_map, Tm.ws_len]; show 1 + t.sz ≤ 100000; omega), fun b2' H8 s8 w8 => ?_⟩
          refine q (.lam x t) b2' H8 us' (ht.take hx) ((bU.trans (.of (.of s36))).trans (bu7.trans (.of (.of s8)))) (p7.same s8) (s8 _ _ hu7) ?_ w8
          rw [hl7]
          show m + 1 + t.bnd.length = m + (t.bnd.length + 1)
          omega
        · rw [decide_eq_false hr0]
          refine iteF ⟨_, rfl, rfl, true, rfl, iteT ?_⟩
          have hS1 := b1.tup hp hS
          have hu1 : H1 u = some (.lst us) := b1 _ _ hB.p hB.g hu
          -- name = ..
          refine ⟨fun σ' H2 => ∃ x : Nm, (x = [97 + m] ∨ x = [113, 97 + m]) ∧ σ' = [some (.ref z.p), some (.ref a), some (.int (0 : Nat)), some (.ref u), some (sV x), none, none, none, none, none, none, none, none] ∧ But z H1 H2 ∧ PotAt H2 z, ?_, fun σ' H2 hmid => ?_⟩
          · refine ⟨_, rfl, z, 4, rfl, by decide, by decide, p1, fun r2 H2 hr2 b2 p2 => ⟨_, _, rfl, rfl, decide (0 < r2), ?_, ?_⟩⟩
            · show V.bl (decide ((0 : Int) < (r2 : Int))) = V.bl (decide (0 < r2))
              rw [decide_eq_decide.mpr (show (0 : Int) < (r2 : Int) ↔ 0 < r2 by omega)]
            have hu2 : H2 u = some (.lst us) := b2 _ _ hB.p hB.g hu1
            by_cases hr3 : 0 < r2
            · rw [decide_eq_true hr3]
              exact iteT ⟨_, rfl, u, _, rfl, .inl (seqL hu2), m, by rw [hm]; rfl, by first | omega | (simp only [List.length_nil] at *; omega), _, .inl rfl, rfl, b2, p2⟩
            · rw [decide_eq_false hr3]
              refine iteF ⟨_, rfl, u, _, rfl, .inl (seqL hu2), m, by rw [hm]; rfl, by first | omega | (simp only [List.length_nil] at *; omega), _, _, rfl, rfl, szl (by show 1 + 1 ≤ 100000; decide), [113, 97 + m], .inr rfl, ?_, b2, p2⟩
              have e : (("q" : Str) ++ SX.S [97 + m]) = SX.S [113, 97 + m] := by
                rw [show ("q" : Str) = SX.S [113] by decide +kernel, SX.S_cat]
                rfl
              rw [e]
              rfl
          obtain ⟨x, hx, rfl, b2, p2⟩ := hmid
          have hu2 : H2 u = some (.lst us) := b2 _ _ hB.p hB.g hu1
          have hS2 := b2.tup p1 hS1
          have hxl : x.length ≤ 2 := by rcases hx with rfl | rfl <;> simp
          -- used.append(name)
          refine ⟨_, rfl, .inl ⟨rfl, _, seqL hu2⟩, _, rfl, u, us, _, rfl, rfl, hu2, szt (by first | omega | (simp only [List.length_nil] at *; omega)), ?_⟩
          have hu3 : (upd H2 u (.lst (us ++ [sV x]))) u = some (.lst (us ++ [sV x])) := upd_same
          have p3 : PotAt (upd H2 u (.lst (us ++ [sV x]))) z := p2.upd hB
          have bU : ButU z u H (upd H2 u (.lst (us ++ [sV x]))) := fun c o h1 h2 h3 h => by rw [upd_ne h3]; exact b2 c o h1 h2 (b1 c o h1 h2 h)
          have hS3 : SqT K (upd H2 u (.lst (us ++ [sV x]))) a (([] : List Nm).map sV) := bU.tup hp hu hS
          -- ("/" + name,)
          refine ⟨_, rfl, _, _, rfl, rfl, szl (by show 1 + (SX.S x).length ≤ 100000; rw [SX.S_len]; omega), szl (by show 1 ≤ 100000; decide), fun tp ntp => ?_⟩
          have s4 := same_new ntp (.tup [.str (("/" : Str) ++ SX.S x)])
          have e4 : (("/" : Str) ++ SX.S x) = enc (.t x) := by
            rw [lit_sl, SX.S_cat]
            rfl
          -- names + (name,)
          refine ⟨_, rfl, _, rfl, _, rfl, szl (by show 1 ≤ 100000; decide), fun tq ntq => ?_⟩
          have s5 := s4.newd (o := .tup [sV x]) ntq
          refine ⟨a, tq, _, _, rfl, rfl, s5.tupd hS3, .inl (.inl upd_same), szl (by simp only [List.length_map, List.length_nil, List.length_cons] at *; omega), fun a2 H6 s6 w6 => ?_⟩
          have s36 := s5.trans s6
          have w6' : SqT K H6 a2 ((([] : List Nm) ++ [x]).map sV) := by
            rw [List.map_append]
            exact w6
          refine ⟨_, rfl, _, rfl, z, a2, u, ([] : List Nm) ++ [x], 0, m + 1, us ++ [sV x], rfl, p3.same s36, w6', s36 _ _ hu3, by rw [List.length_append, List.length_singleton, hm], hB, by simp only [List.length_append, List.length_singleton, List.length_nil] at *; omega, by simp only [List.length_append, List.length_singleton, List.length_nil] at *; omega, by omega, by simp only [List.length_append, List.length_singleton, List.length_nil] at *; omega, fun t b H7 us' ht bu7 p7 hu7 hl7 hw7 => ?_⟩
          have htp : SqT K H7 tp [eV (.t x)] := bu7.tup (p3.same s36) (s36 _ _ hu3) (.inl (.inl (by
            have h6 := s6 _ _ (same_new ntq (.tup [sV x]) tp _ upd_same)
            rw [e4] at h6
            exact h6)))
          have hz := ht.sz
          refine ⟨tp, b, _, _, rfl, rfl, htp, hw7, szl (by rw [List.length_map, Tm.ws_len]; show 1 + t.sz ≤ 100000; omega), fun b2' H8 s8 w8 => ?_⟩
          refine q (.lam x t) b2' H8 us' (ht.take hx) ((bU.trans (.of (.of s36))).trans (bu7.trans (.of (.of s8)))) (p7.same s8) (s8 _ _ hu7) ?_ w8
          rw [hl7]
          show m + 1 + t.bnd.length = m + (t.bnd.length + 1)
          omega
    · refine ⟨_, rfl, rfl, false, dI (decide_eq_false (by omega)), iteF (iteF ?_)⟩
      refine ⟨fun σ' H1 => σ' = [some (.ref z.p), some (.ref a), some (.int (n : Nat)), some (.ref u), none, none, none, none, none, none, none, none, none] ∧ But z H H1 ∧ PotAt H1 z, ?_, ?_⟩
      · refine ⟨_, rfl, a, _, rfl, .inr hS, _, rfl, _, _, rfl, rfl, decide (names.length ≤ n), ?_, ?_⟩
        · show V.bl (decide (((names.map sV).length : Int) ≤ (n : Int))) = V.bl (decide (names.length ≤ n))
          rw [decide_eq_decide.mpr (show ((names.map sV).length : Int) ≤ (n : Int) ↔ names.length ≤ n by omega)]
        by_cases hle : names.length ≤ n
        · rw [decide_eq_true hle]
          refine iteT ?_
          refine ⟨_, rfl, z, 2, rfl, by decide, by decide, hp, fun r H1 hr1 b1 p1 => ⟨rfl, decide (r = 0), dI (decide_eq_decide.mpr (by omega)), ?_⟩⟩
          by_cases hr0 : r = 0
          · rw [decide_eq_true hr0]
            refine iteT (iteT ?_)
            have hS1 := b1.tup hp hS
            have hu1 : H1 u = some (.lst us) := b1 _ _ hB.p hB.g hu
            -- name = ..
            refine ⟨fun σ' H2 => ∃ x : Nm, (x = [97 + m] ∨ x = [113, 97 + m]) ∧ σ' = [some (.ref z.p), some (.ref a), some (.int (n : Nat)), some (.ref u), some (sV x), none, none, none, none, none, none, none, none] ∧ But z H1 H2 ∧ PotAt H2 z, ?_, fun σ' H2 hmid => ?_⟩
            · refine ⟨_, rfl, z, 4, rfl, by decide, by decide, p1, fun r2 H2 hr2 b2 p2 => ⟨_, _, rfl, rfl, decide (0 < r2), ?_, ?_⟩⟩
              · show V.bl (decide ((0 : Int) < (r2 : Int))) = V.bl (decide (0 < r2))
                rw [decide_eq_decide.mpr (show (0 : Int) < (r2 : Int) ↔ 0 < r2 by omega)]
              have hu2 : H2 u = some (.lst us) := b2 _ _ hB.p hB.g hu1
              by_cases hr3 : 0 < r2
              · rw [decide_eq_true hr3]
                exact iteT ⟨_, rfl, u, _, rfl, .inl (seqL hu2), m, by rw [hm]; rfl, by first | omega | (simp only [List.length_nil] at *; omega), _, .inl rfl, rfl, b2, p2⟩
              · rw [decide_eq_false hr3]
                refine iteF ⟨_, rfl, u, _, rfl, .inl (seqL hu2), m, by rw [hm]; rfl, by first | omega | (simp only [List.length_nil] at *; omega), _, _, rfl, rfl, szl (by show 1 + 1 ≤ 100000; decide), [113, 97 + m], .inr rfl, ?_, b2, p2⟩
                have e : (("q" : Str) ++ SX.S [97 + m]) = SX.S [113, 97 + m] := by
                  rw [show ("q" : Str) = SX.S [113] by decide +kernel, SX.S_cat]
                  rfl
                rw [e]
                rfl
            obtain ⟨x, hx, rfl, b2, p2⟩ := hmid
            have hu2 : H2 u = some (.lst us) := b2 _ _ hB.p hB.g hu1
            have hS2 := b2.tup p1 hS1
            have hxl : x.length ≤ 2 := by rcases hx with rfl | rfl <;> simp
            -- used.append(name)
            refine ⟨_, rfl, .inl ⟨rfl, _, seqL hu2⟩, _, rfl, u, us, _, rfl, rfl, hu2, szt (by first | omega | (simp only [List.length_nil] at *; omega)), ?_⟩
            have hu3 : (upd H2 u (.lst (us ++ [sV x]))) u = some (.lst (us ++ [sV x])) := upd_same
            have p3 : PotAt (upd H2 u (.lst (us ++ [sV x]))) z := p2.upd hB
            have bU : ButU z u H (upd H2 u (.lst (us ++ [sV x]))) := fun c o h1 h2 h3 h => by rw [upd_ne h3]; exact b2 c o h1 h2 (b1 c o h1 h2 h)
            have hS3 : SqT K (upd H2 u (.lst (us ++ [sV x]))) a (names.map sV) := bU.tup hp hu hS
            -- ("/" + name,)
            refine ⟨_, rfl, _, _, rfl, rfl, szl (by show 1 + (SX.S x).length ≤ 100000; rw [SX.S_len]; omega), szl (by show 1 ≤ 100000; decide), fun tp ntp => ?_⟩
            have s4 := same_new ntp (.tup [.str (("/" : Str) ++ SX.S x)])
            have e4 : (("/" : Str) ++ SX.S x) = enc (.t x) := by
              rw [lit_sl, SX.S_cat]
              rfl
            -- names + (name,)
            refine ⟨_, rfl, _, rfl, _, rfl, szl (by show 1 ≤ 100000; decide), fun tq ntq => ?_⟩
            have s5 := s4.newd (o := .tup [sV x]) ntq
            refine ⟨a, tq, _, _, rfl, rfl, s5.tupd hS3, .inl (.inl upd_same), szl (by simp only [List.length_map, List.length_nil, List.length_cons] at *; omega), fun a2 H6 s6 w6 => ?_⟩
            have s36 := s5.trans s6
            have w6' : SqT K H6 a2 ((names ++ [x]).map sV) := by
              rw [List.map_append]
              exact w6
            refine ⟨_, rfl, _, rfl, z, a2, u, names ++ [x], n, m + 1, us ++ [sV x], rfl, p3.same s36, w6', s36 _ _ hu3, by rw [List.length_append, List.length_singleton, hm], hB, by simp only [List.length_append, List.length_singleton, List.length_nil] at *; omega, by simp only [List.length_append, List.length_singleton, List.length_nil] at *; omega, by omega, by simp only [List.length_append, List.length_singleton, List.length_nil] at *; omega, fun t b H7 us' ht bu7 p7 hu7 hl7 hw7 => ?_⟩
            have htp : SqT K H7 tp [eV (.t x)] := bu7.tup (p3.same s36) (s36 _ _ hu3) (.inl (.inl (by
              have h6 := s6 _ _ (same_new ntq (.tup [sV x]) tp _ upd_same)
              rw [e4] at h6
              exact h6)))
            have hz := ht.sz
            refine ⟨tp, b, _, _, rfl, rfl, htp, hw7, szl (by rw [List.length_map, Tm.ws_len]; show 1 + t.sz ≤ 100000; omega), fun b2' H8 s8 w8 => ?_⟩
            refine q (.lam x t) b2' H8 us' (ht.take hx) ((bU.trans (.of (.of s36))).trans (bu7.trans (.of (.of s8)))) (p7.same s8) (s8 _ _ hu7) ?_ w8
            rw [hl7]
            show m + 1 + t.bnd.length = m + (t.bnd.length + 1)
            omega
          · rw [decide_eq_false hr0]
            refine iteF ⟨_, rfl, rfl, false, dI (decide_eq_false (by omega)), iteF ⟨rfl, b1, p1⟩⟩
        · rw [decide_eq_false hle]
          refine iteF (iteF ⟨_, rfl, rfl, false, dI (decide_eq_false (by omega)), iteF ⟨rfl, .refl z H, hp⟩⟩)
      · intro σ' H1 hmid
        obtain ⟨rfl, b1, p1⟩ := hmid
        have hS1 := b1.tup hp hS
        have hu1 : H1 u = some (.lst us) := b1 _ _ hB.p hB.g hu
        -- row
        refine ⟨_, rfl, _, rfl, a, _, rfl, .inr hS1, fun l0 nl0 => ?_⟩
        have s1 := same_new nl0 (.lst (names.map sV))
        refine ⟨z, l0, _, rfl, p1.same s1, seqL upd_same, by rw [hlen]; omega, fun rw ys H2 hperm nrw b2 p2 hrw => ?_⟩
        obtain ⟨row, rfl, hrow⟩ := unS_perm hperm
        have hrl : row.length = names.length := hrow.length_eq
        have hL : (row.map sV).length = names.length := by rw [List.length_map, hrl]
        have b02 : But z H H2 := b1.trans ((But.of s1).trans b2)
        -- least
        refine ⟨_, rfl, rw, _, rfl, .inl (seqL hrw), _, rfl, _, _, rfl, rfl, 0, _, rfl, ?_⟩
        -- cut
        refine ⟨fun σ' H3 => ∃ (ly : Option V) (ci : Int) (c : Nat), σ' = [some (.ref z.p), some (.ref a), some (.int (n : Nat)), some (.ref u), none, some (.ref rw), ly, some (.int ci), none, none, none, none, none] ∧ ci = (c : Nat) ∧ c ≤ names.length ∧ c ≤ n ∧ names.length ≤ n + c ∧ But z H2 H3 ∧ PotAt H3 z, ?_, fun σ' H3 hmid => ?_⟩
        · refine ⟨_, rfl, _, rfl, _, rfl, rw, _, rfl, .inl (seqL hrw), _, rfl, _, _, rfl, _, rfl, _, _, rfl, rfl, _, 1, rfl, rfl, z, min names.length n - (names.length - n) + 1, congrArg (fun i => [V.ref z.p, V.int i]) ?_, by omega, by omega, p2, fun r H3 hr3 b3 p3 => ⟨_, _, rfl, rfl, _, _, names.length - n + r, rfl, ?_, by omega, by omega, by omega, b3, p3⟩⟩
          · try dsimp only
            rw [hL]
            split <;> split <;> omega
          · try dsimp only
            rw [hL]
            split <;> omega
        obtain ⟨ly, ci, c, rfl, rfl, hc1, hc2, hc3, b3, p3⟩ := hmid
        have p1s := p1.same s1
        have hrw3 : H3 rw = some (.lst (row.map sV)) := b3.keep p1s nrw hrw
        -- first, last
        refine ⟨_, rfl, _, rfl, _, rfl, rw, _, rfl, seqL hrw3, fun q1 nq1 => ⟨q1, _, rfl, .inl ⟨seqL upd_same, fun f1 nf1 => ?_⟩⟩⟩
        have s4 := (same_new nq1 (.lst (cutV (row.map sV) none (some (c : Int))))).newd (o := .tup (cutV (row.map sV) none (some (c : Int)))) nf1
        refine ⟨_, rfl, _, rfl, _, rfl, rw, _, rfl, seqL (s4 _ _ hrw3), fun q2 nq2 => ⟨q2, _, rfl, .inl ⟨seqL upd_same, fun f2 nf2 => ⟨_, _, rfl, ?_⟩⟩⟩⟩
        have s5 := (s4.newd (o := .lst (cutV (row.map sV) (some (c : Int)) none)) nq2).newd (o := .tup (cutV (row.map sV) (some (c : Int)) none)) nf2
        generalize hH5 : (upd (upd (upd (upd H3 q1 (.lst (cutV (row.map sV) none (some (c : Int))))) f1 (.tup (cutV (row.map sV) none (some (c : Int))))) q2 (.lst (cutV (row.map sV) (some (c : Int)) none))) f2 (.tup (cutV (row.map sV) (some (c : Int)) none))) = H5 at s5
        have hf1 : SqT K H5 f1 ((row.take c).map sV) := by
          have e := cut_to (xs := row.map sV) (p := c) (by omega)
          rw [List.map_take, ← e, ← hH5]
          exact .inl (.inl (((same_new nq2 (.lst (cutV (row.map sV) (some (c : Int)) none))).newd (o := .tup (cutV (row.map sV) (some (c : Int)) none)) nf2) _ _ upd_same))
        have hf2 : SqT K H5 f2 ((row.drop c).map sV) := by
          have e := cut_from (xs := row.map sV) (p := c) (by omega)
          rw [List.map_drop, ← e, ← hH5]
          exact .inl (.inl upd_same)
        have p5 := p3.same s5
        have b05 : But z H H5 := b02.trans (b3.trans (.of s5))
        have hl2 : ((row.drop c).map sV).length = names.length - c := by rw [List.length_map, List.length_drop, hrl]
        -- low
        refine ⟨_, rfl, _, 1, rfl, rfl, 0, _, rfl, ?_⟩
        -- more
        refine ⟨fun σ' H6 => ∃ (lw : Option V) (mi : Int) (mo : Nat), σ' = [some (.ref z.p), some (.ref a), some (.int (n : Nat)), some (.ref u), none, some (.ref rw), ly, some (.int (c : Nat)), some (.ref f1), some (.ref f2), lw, some (.int mi), none] ∧ mi = (mo : Nat) ∧ c ≤ mo + 1 ∧ mo + 1 ≤ n ∧ names.length - c ≤ n - mo ∧ But z H5 H6 ∧ PotAt H6 z, ?_, fun σ' H6 hmid => ?_⟩
        · refine ⟨_, rfl, _, rfl, _, rfl, _, 1, rfl, rfl, _, rfl, f2, _, rfl, .inr hf2, _, 1, rfl, rfl, 0, _, rfl, _, _, rfl, rfl, _, rfl, _, _, rfl, rfl, _, 1, rfl, rfl, z, n - 1 - (names.length - c - 1) - (c - 1) + 1, congrArg (fun i => [V.ref z.p, V.int i]) ?_, by omega, by omega, p5, fun r H6 hr6 b6 p6 => ⟨_, _, rfl, rfl, _, _, c - 1 + r, rfl, ?_, by omega, by omega, by omega, b6, p6⟩⟩
          · try dsimp only
            rw [hl2]
            split <;> split <;> omega
          · try dsimp only
            split <;> omega
        obtain ⟨lw, mi, mo, rfl, rfl, hm1, hm2', hm3, b6, p6⟩ := hmid
        have b06 : But z H H6 := b05.trans b6
        have hu6 : H6 u = some (.lst us) := b06 _ _ hB.p hB.g hu
        have hf16 := b6.tup p5 hf1
        have hf26 := b6.tup p5 hf2
        have htl : (row.take c).length = c := by rw [List.length_take]; omega
        have hdl : (row.drop c).length = names.length - c := by rw [List.length_drop, hrl]
        -- one
        refine ⟨_, rfl, _, rfl, _, rfl, _, rfl, z, f1, u, row.take c, mo, m, us, rfl, p6, hf16, hu6, hm, hB, by omega, by omega, by omega, by omega, fun t1 o1 H7 us1 g1 bu7 p7 hu7 hl7 hw7 => ?_⟩
        have hf27 := bu7.tup p6 hu6 hf26
        have z1 := g1.sz
        have l1 := g1.bl
        -- ("@",) + one
        refine ⟨szl (by show 1 ≤ 100000; decide), fun tp ntp => ⟨_, rfl, tp, o1, _, _, rfl, rfl, .inl (.inl upd_same), hw7.same (same_new ntp _), szl (by rw [List.length_map, Tm.ws_len]; show 1 + t1.sz ≤ 100000; omega), fun t2 H8 s8 w8 => ?_⟩⟩
        have s78 := (same_new ntp _).trans s8
        have hu8 := s78 _ _ hu7
        have p8 := p7.same s78
        -- the last part
        refine ⟨_, rfl, _, rfl, _, rfl, _, 1, rfl, rfl, _, rfl, _, _, rfl, rfl, _, rfl, z, f2, u, row.drop c, n - 1 - mo, m + t1.bnd.length, us1, ?_, p8, s78.tupd hf27, hu8, hl7, hB, by omega, by omega, by omega, by omega, fun t2' o2 H9 us2 g2 bu9 p9 hu9 hl9 hw9 => ?_⟩
        · have e : ((n : Nat) : Int) - 1 - ((mo : Nat) : Int) = ((n - 1 - mo : Nat) : Int) := by omega
          show [V.ref z.p, V.ref f2, V.int (((n : Nat) : Int) - 1 - ((mo : Nat) : Int)), V.ref u] = [V.ref z.p, V.ref f2, V.int ((n - 1 - mo : Nat) : Int), V.ref u]
          rw [e]
        have z2 := g2.sz
        have w9 := bu9.tup p8 hu8 w8
        refine ⟨t2, o2, _, _, rfl, rfl, w9, hw9, szl (by simp only [List.length_append, List.length_map, Tm.ws_len, List.length_singleton]; omega), fun o3 Ha sa wa => ?_⟩
        refine q (.app t1 t2') o3 Ha us2 (g1.give g2 (by rw [List.take_append_drop]; exact hrow) (by omega)) (((ButU.of b06).trans bu7).trans ((ButU.of (.of s78)).trans (bu9.trans (.of (.of sa))))) (p9.same sa) (sa _ _ hu9) ?_ ?_
        · show us2.length = m + (t1.bnd ++ t2'.bnd).length
          rw [hl9, List.length_append]
          omega
        · show SqT K Ha o3 ((Tm.Tk.g :: (t1.ws ++ t2'.ws)).map eV)
          rw [List.map_cons, List.map_append]
          exact wa
theorem ok_law_words (D : Dn K mg "_law_words" st_law_words ["_law_pot_here", "_law_names", "_law_givens", "_law_used"]) (T : Bt mg) (c_law_draw : C8.Cal P w K mg base 1 "_law_draw" spDraw []) (c_law_letters : C8.Cal P w K mg base 1 "_law_letters" spLetters [])
    (c_law_mixed : C8.Cal P w K mg base 2 "_law_mixed" (spMixed K) []) : ∀ N : Nat, C8.Cal P w K mg base (3 + N) "_law_words" (spWords K N) []
  | 0 => ok_law_words_0 D
  | N + 1 => ok_law_words_s D T c_law_draw c_law_letters c_law_mixed (ok_law_words D T c_law_draw c_law_letters c_law_mixed N)
end Ok
set_option maxRecDepth 100000
set_option maxHeartbeats 400000
/-! Programs grown by more takes. -/
namespace Ok
open PySem PySem.Spec PyProof.Rows L2 HT
open Tm (Tk T Good Step Star nf)
variable {P : Program} {w : World} {K : PySem.W.Frag} {mg : Str → Option Value} {base : Heap}
theorem op_inK {X : Cx} {K : PySem.W.Frag} (h : X.K = K) : OpR X (compareOp .In) (rIn K false) := by
  subst h
  exact op_in_seq
/-- the names put in -/
def ZsOk (zs : List Nm) (i : Nat) : Prop := ∀ x ∈ zs, ∃ j, j < i ∧ x = [122, 97 + j]
theorem z_ok {j : Nat} (h : j < 26) : OkN [122, 97 + j] := ⟨by simp, by simp, fun c hc => by
  simp only [List.mem_cons, List.not_mem_nil, or_false] at hc
  omega⟩
theorem grown_pg {t0 t : T Nm} {zs : List Nm} {i : Nat} (h : Tm.Grown t0 t zs) (h0 : Pg t0) (hz : ZsOk zs i) (hi : i ≤ 26) : Pg t := ⟨h.g, fun y hy => by
  rcases List.mem_append.mp (h.occ.subset hy) with q | q
  · obtain ⟨j, hj, rfl⟩ := hz y q
    exact z_ok (by omega)
  · exact h0.nm y q⟩
theorem grown_put {t0 t t' : T Nm} {zs : List Nm} {i : Nat} (h : Tm.Grown t0 t zs) (h0 : Pg t0) (hf : ∀ x ∈ t0.occ, x.head? ≠ some 122) (hz : ZsOk zs i) (p : Tm.Put t t' [122, 97 + i]) : Tm.Grown t0 t' ([122, 97 + i] :: zs) ∧ ZsOk ([122, 97 + i] :: zs) (i + 1) := by
  have n1 : [122, 97 + i] ∉ zs := fun q => by
    obtain ⟨j, hj, e⟩ := hz _ q
    injection e with _ e
    injection e with e _
    omega
  have n2 : [122, 97 + i] ∉ t0.occ := fun q => hf _ q rfl
  refine ⟨h.put p n1 n2 fun q => n2 (Tm.bnd_occ h0.g.ok q), fun x hx => ?_⟩
  rcases List.mem_cons.mp hx with rfl | hx
  · exact ⟨i, by omega, rfl⟩
  · obtain ⟨j, hj, e⟩ := hz x hx
    exact ⟨j, by omega, e⟩
/-- the takes of these words, by name -/
def tkn (ws : List Wd) : List V := (ws.filterMap Tm.isT).map sV
theorem tkn_step (ws : List Wd) (i : Nat) {k : Wd} (h : ws[i]? = some k) : tkn (ws.take (i + 1)) = tkn (ws.take i) ++ (if isTk k then [sV (nmOf k)] else []) := by
  have e : ws.take (i + 1) = ws.take i ++ [k] := by rw [List.take_add_one, h]; rfl
  unfold tkn
  rw [e, List.filterMap_append, List.map_append]
  cases k <;> rfl
theorem sV_flat (l : List Nm) : (l.map sV).all flatV = true := List.all_eq_true.mpr fun v hv => by
  obtain ⟨x, _, rfl⟩ := List.mem_map.mp hv
  rfl
theorem eqV_self (x : Nm) : eqV (sV x) (sV x) = true := by
  show (SX.S x == SX.S x) = true
  exact beq_self_eq_true _
def spGrown (K : PySem.W.Frag) : Sp := fun vs H Q _ => ∃ (z : Pt) (a : Addr) (t0 : T Nm) (m : Nat), vs = [.ref z.p, .ref a, .int (m : Nat)] ∧ PotAt H z ∧ Pg t0 ∧ (∀ x ∈ t0.occ, x.head? ≠ some 122) ∧ t0.sz ≤ 500 ∧ m ≤ 4 ∧ Wds K H a t0 ∧
  ∀ t zs b H', Tm.Grown t0 t zs → zs.length ≤ m → ZsOk zs m → But z H H' → PotAt H' z → Wds K H' b t → Q (.ref b) H'
abbrev st_law_grown : Stmt := topS 38
abbrev nm_law_grown : List Str := ["_law_pot_here", "_law_words_here", "_law_many", "_law_turn", "_law_ends_here", "_law_at", "_law_name", "_law_kind", "_law_part", "_law_inner", "_law_last", "_law_taken", "_law_word", "_law_body"]
theorem sc_law_grown : FnScope nm_law_grown ["_law_pot_here", "_law_words_here", "_law_many"] (C8.fnScope st_law_grown) := ⟨rfl, rfl, rfl, by decide +kernel, rfl, by decide +kernel, by decide +kernel⟩
theorem ok_law_grown (D : Dn K mg "_law_grown" st_law_grown ["_law_pot_here", "_law_words_here", "_law_many"]) (T : Bt mg) (c_law_ends : C8.Cal P w K mg base 1 "_law_ends" (spEnds K) []) (c_law_draw : C8.Cal P w K mg base 1 "_law_draw" spDraw []) (c_law_letters : C8.Cal P w K mg base 1 "_law_letters" spLetters []) :
    C8.Cal P w K mg base 2 "_law_grown" (spGrown K) [] := by
  obtain ⟨f, fd, F, b⟩ := D.ex
  have nd := sc_law_grown.nd
  refine C8.cal0 F b .nil sc_law_grown (fun vs H Q E h => ?_) (fun cdv A outer s H vs Q E hr h => ?_)
  · obtain ⟨z, a, t0, m, rfl, _⟩ := h
    rfl
  · obtain ⟨z, a, t0, m, rfl, hp, h0, hf, hz, hm, hw, q⟩ := h
    refine ⟨_, (pss_cons (ps_for PassesOwn.never rfl (pi_range1 rfl T.z_range (pa_cons (pv 2) pa_nil)) (pg_name (i := 3) nd rfl (.inl rfl))
        (pss_cons (ps_set (i := 4) nd rfl (.inl rfl) (C8.pe_c c_law_ends hr (by omega) rfl (pa_cons (pv 1) pa_nil)))
          (pss_cons (ps_set (i := 5) nd rfl (.inl rfl) (C8.pe_c c_law_draw hr (by omega) rfl (pa_cons (pv 0) (pa_cons (pe_callB call_len_seq rfl T.z_len PySem.boot_len (pa_cons (pv 1) pa_nil)) pa_nil))))
          (C8.pss_cut (ps_set (i := 6) nd rfl (.inl rfl) (pe_op op_add_str pe_str (C8.pe_c c_law_letters hr (by omega) rfl (pa_cons (pv 3) pa_nil))))
          (pss_cons (ps_set (i := 7) nd rfl (.inl rfl) (C8.pe_c c_law_draw hr (by omega) rfl (pa_cons (pv 0) (pa_cons pe_int pa_nil))))
          (pss_cons (ps_set (i := 8) nd rfl (.inl rfl) (pe_slice sl_tupS (pv 1) (po_some (pv 5)) (po_some (pe_ix ix_tup (pv 4) (pv 5) (fun _ _ => rfl)))))
          (pss_one (ps_if (pt_cmpR op_eq (pv 7) pe_int (nomark _))
            (pss_one (ps_set (i := 1) nd rfl (.inl rfl) (pe_op op_catS (pe_op op_catS (pe_op op_catS (pe_slice sl_tupS (pv 1) po_none (po_some (pv 5))) (pe_tup (pa_cons pe_str (pa_cons (pe_op op_add_str pe_str (pv 6)) (pa_cons (pv 6) pa_nil))))) (pv 8)) (pe_slice sl_tupS (pv 1) (po_some (pe_ix ix_tup (pv 4) (pv 5) (fun _ _ => rfl))) po_none))))
            (pss_cons (ps_set (i := 9) nd rfl (.inl rfl) (C8.pe_c c_law_draw hr (by omega) rfl (pa_cons (pv 0) (pa_cons (pe_callB call_len_seq rfl T.z_len PySem.boot_len (pa_cons (pv 8) pa_nil)) pa_nil))))
              (pss_cons (ps_set (i := 10) nd rfl (.inl rfl) (pe_ix ix_tup (pv 4) (pe_op op_add (pv 5) (pv 9)) (fun _ _ => rfl)))
              (pss_cons (ps_set (i := 11) nd rfl (.inr rfl) (pe_lc (own := [("_law_word", 12)]) rfl nd (pi_tup (pe_slice sl_tupS (pv 8) po_none (po_some (pv 9)))) (blkOk_by (own := [("_law_word", 12)]) (N := nm_law_grown) (sc := C8.fnScope st_law_grown) (by decide +kernel)) (fun _ _ _ _ _ => (pg_name (i := 12) nd rfl (.inl rfl) (.inr rfl))) (fun _ _ _ _ _ => pts_one (pt_cmpR op_eq (pe_slice C8.sl_txt (pv 12) po_none (po_some pe_int)) pe_str (nomark _))) (fun _ _ _ _ _ => (pe_slice C8.sl_txt (pv 12) (po_some pe_int) po_none))))
              (pss_one (ps_if (pt_cmpR op_eq (pe_callB call_len_seq rfl T.z_len PySem.boot_len (pa_cons (pe_lc (own := [("_law_word", 12)]) rfl nd (pi_tup (pe_slice sl_tupS (pv 1) (po_some (pe_op op_add (pv 5) (pv 9))) (po_some (pv 10)))) (blkOk_by (own := [("_law_word", 12)]) (N := nm_law_grown) (sc := C8.fnScope st_law_grown) (by decide +kernel)) (fun _ _ _ _ _ => (pg_name (i := 12) nd rfl (.inl rfl) (.inr rfl))) (fun _ _ _ _ _ => pts_one (pt_cmpR (op_inK (K := K) rfl) (pv 12) (pv 11) rfl)) (fun _ _ _ _ _ => (pv 12))) pa_nil)) pe_int (nomark _))
                (pss_cons (ps_set (i := 13) nd rfl (.inl rfl) (pe_op op_catS (pe_op op_catS (pe_slice sl_tupS (pv 8) po_none (po_some (pv 9))) (pe_tup (pa_cons (pv 6) pa_nil))) (pe_slice sl_tupS (pv 1) (po_some (pv 10)) (po_some (pe_ix ix_tup (pv 4) (pv 5) (fun _ _ => rfl))))))
                  (pss_one (ps_set (i := 1) nd rfl (.inl rfl) (pe_op op_catS (pe_op op_catS (pe_op op_catS (pe_op op_catS (pe_slice sl_tupS (pv 1) po_none (po_some (pv 5))) (pe_tup (pa_cons pe_str (pa_cons (pe_op op_add_str pe_str (pv 6)) pa_nil)))) (pv 13)) (pe_slice sl_tupS (pv 1) (po_some (pe_op op_add (pv 5) (pv 9))) (po_some (pv 10)))) (pe_slice sl_tupS (pv 1) (po_some (pe_ix ix_tup (pv 4) (pv 5) (fun _ _ => rfl))) po_none)))))
                pss_nil)))))))))))))
      (pss_one (ps_ret (pv 1)))), ?_⟩
    refine ⟨_, rfl, _, rfl, by omega, by omega, ?_⟩
    rw [Int.toNat_natCast]
    refine for_range (lo := 0) (n := m) (fun i σ H' => ∃ (o3 o4 o5 o6 o7 o8 o9 oa ob od : Option V) (b : Addr) (t : Tm.T Nm) (zs : List Nm), σ = [some (.ref z.p), some (.ref b), some (.int (m : Nat)), o3, o4, o5, o6, o7, o8, o9, oa, ob, none, od] ∧ Tm.Grown t0 t zs ∧ zs.length ≤ i ∧ ZsOk zs i ∧ But z H H' ∧ PotAt H' z ∧ Wds K H' b t)
      ⟨none, none, none, none, none, none, none, none, none, none, a, t0, [], rfl, .start h0.g, Nat.le_refl _, (fun _ h => nomatch h), .refl _ _, hp, hw⟩ (fun i σ H1 hi pv => ?_) (fun σ H1 pv => ?_)
    · obtain ⟨o3, o4, o5, o6, o7, o8, o9, oa, ob, od, b, t, zs, rfl, hG, hl, hzs, b1, p1, hw1⟩ := pv
      have hpg := grown_pg hG h0 hzs (by omega)
      have hsz := hG.sz
      have hwl := Tm.ws_len t
      have hL : (t.ws.map eV).length = t.sz := by rw [List.length_map, hwl]
      -- ends, at
      refine ⟨_, rfl, b, t, rfl, hpg, by omega, hw1, fun e H2 s2 he => ?_⟩
      have hw2 := hw1.same s2
      have p2 := p1.same s2
      refine ⟨_, rfl, _, rfl, b, _, rfl, .inr hw2, z, (t.ws.map eV).length, rfl, by have := Tm.sz_pos t; omega, by omega, p2, fun at_ H3 hat b3 p3 => ?_⟩
      have hw3 : Wds K H3 b t := b3.tup p2 hw2
      have he3 := b3.tup p2 he
      obtain ⟨F, s, pre, post, o1, o2, bb1, bb2, C, es, ls, ends_at⟩ := Tm.ctx_at t at_ 0 (by omega)
      -- name
      have e0 : (0 : Int) + (i : Nat) = (i : Nat) := Int.zero_add _
      refine ⟨fun σ' H4 => σ' = [some (.ref z.p), some (.ref b), some (.int (m : Nat)), some (.int (0 + (i : Nat))), some (.ref e), some (.int (at_ : Nat)), some (sV [122, 97 + i]), o7, o8, o9, oa, ob, none, od] ∧ H4 = H3, ?_, fun σ' H4 hmid => ?_⟩
      · refine ⟨_, rfl, i, congrArg (fun i => [V.int i]) e0, by omega, _, _, rfl, rfl, szl (by show 1 + 1 ≤ 100000; decide), ⟨?_, rfl⟩⟩
        have e : (("z" : Str) ++ SX.S [97 + i]) = SX.S [122, 97 + i] := by
          rw [lit_z, SX.S_cat]
          rfl
        rw [e]
        rfl
      obtain ⟨rfl, rfl⟩ := hmid
      -- kind
      refine ⟨_, rfl, z, 3, rfl, by decide, by decide, p3, fun kd H4 hkd b4 p4 => ?_⟩
      have hw4 : Wds K H4 b t := b4.tup p3 hw3
      have he4 := b4.tup p3 he3
      -- part
      refine ⟨_, rfl, _, rfl, _, rfl, _, rfl, _, rfl, e, _, _, _, rfl, rfl, he4, atI_nat (map_iV ends_at), _, rfl, b, _, rfl, hw4, fun pp H5 s5 w5 => ?_⟩
      have hwt : t.ws = pre ++ (s.ws ++ post) := by rw [← es]; exact C.ws s
      have hsl := Tm.ws_len s
      have hall : t.sz = at_ + (s.sz + post.length) := by
        have := congrArg List.length hwt
        simp only [List.length_append, hwl, hsl, ls] at this
        exact this
      have wp : SqT K H5 pp (s.ws.map eV) := by
        rw [cut_mid (by omega) (by omega), hwt, List.map_append, List.map_append, List.drop_left' (by rw [List.length_map]; exact ls), show 0 + at_ + s.sz - at_ = s.sz by omega, List.take_left' (by rw [List.length_map]; exact hsl)] at w5
        exact w5
      have hw5 : Wds K H5 b t := hw4.same s5
      have he5 := s5.tupd he4
      have p5 := p4.same s5
      have b05 : But z H H5 := b1.trans ((But.of s2).trans (b3.trans (b4.trans (.of s5))))
      have c1 : (t.ws.map eV).take at_ = pre.map eV := by rw [hwt, List.map_append, List.take_left' (by rw [List.length_map]; exact ls)]
      have c2 : (t.ws.map eV).drop (0 + at_ + s.sz) = post.map eV := by
        rw [hwt, ← List.append_assoc, List.map_append, List.drop_left' (by simp only [List.length_map, List.length_append, ls, hsl]; omega)]
      refine ⟨_, rfl, rfl, decide (kd = 0), dI (decide_eq_decide.mpr (by omega)), ?_⟩
      by_cases hk : kd = 0
      · rw [decide_eq_true hk]
        refine iteT ?_
        -- words[:at]
        refine ⟨_, rfl, _, rfl, _, rfl, b, _, rfl, hw5, fun a1 H6 s6 w6 => ?_⟩
        rw [cut_to (by omega), c1] at w6
        have ez : (("/" : Str) ++ SX.S [122, 97 + i]) = enc (.t [122, 97 + i]) := by
          rw [lit_sl, SX.S_cat]
          rfl
        have eg : (V.str ("@" : Str)) = eV .g := by
          show V.str ("@" : Str) = V.str (SX.S [64])
          rw [lit_at]
        refine ⟨_, rfl, _, _, rfl, rfl, szl (by show 1 + 2 ≤ 100000; decide), _, rfl, szl (by show 3 ≤ 100000; decide), fun tp ntp => ?_⟩
        rw [ez, eg]
        have s7 := same_new ntp (.tup [eV .g, .str (enc (.t [122, 97 + i])), sV [122, 97 + i]])
        generalize hH7 : upd H6 tp (.tup [eV .g, .str (enc (.t [122, 97 + i])), sV [122, 97 + i]]) = H7 at s7
        have wt : SqT K H7 tp (([Tk.g, .t [122, 97 + i], .u [122, 97 + i]] : List Wd).map eV) := by
          rw [← hH7]
          exact .inl (.inl upd_same)
        have pl : (pre.map eV).length = at_ := by rw [List.length_map, ls]
        refine ⟨a1, tp, _, _, rfl, rfl, s7.tupd w6, wt, szl (by rw [pl]; show at_ + 3 ≤ 100000; omega), fun a2 H8 s8 w8 => ?_⟩
        have s68 := s6.trans (s7.trans s8)
        refine ⟨_, rfl, a2, pp, _, _, rfl, rfl, w8, s68.tupd wp, szl (by simp only [List.length_append, List.length_map, List.length_cons, List.length_nil, ls, hsl]; omega), fun a3 H9 s9 w9 => ?_⟩
        have s69 := s68.trans s9
        refine ⟨_, rfl, _, rfl, _, rfl, e, _, _, _, rfl, rfl, s69.tupd he5, atI_nat (map_iV ends_at), _, rfl, b, _, rfl, s69.tupd hw5, fun a4 Ha sa wa => ?_⟩
        rw [cut_from (by omega), c2] at wa
        refine ⟨a3, a4, _, _, rfl, rfl, sa.tupd w9, wa, szl (by simp only [List.length_append, List.length_map, List.length_cons, List.length_nil, ls, hsl]; omega), fun a5 Hb sb wb => ?_⟩
        have s6b := s69.trans (sa.trans sb)
        subst es
        obtain ⟨pu, ew⟩ := Tm.put_whole C hpg.g.ok [122, 97 + i]
        obtain ⟨hG', hzs'⟩ := grown_put hG h0 hf hzs pu
        refine ⟨_, _, _, _, _, _, _, _, _, _, a5, _, _, rfl, hG', by rw [List.length_cons]; omega, hzs', b05.trans (.of s6b), p5.same s6b, ?_⟩
        show SqT K Hb a5 (_ : List V)
        rw [ew]
        simp only [List.map_append]
        simp only [List.append_assoc] at wb
        exact wb
      · rw [decide_eq_false hk]
        refine iteF ?_
        have hsL : (s.ws.map eV).length = s.sz := by rw [List.length_map, hsl]
        -- inner
        refine ⟨_, rfl, _, rfl, pp, _, rfl, .inr wp, z, (s.ws.map eV).length, rfl, by have := Tm.sz_pos s; omega, by omega, p5, fun inn H6 hin b6 p6 => ?_⟩
        have hw6 : Wds K H6 b t := b6.tup p5 hw5
        have he6 := b6.tup p5 he5
        have wp6 := b6.tup p5 wp
        obtain ⟨G, u, pre2, post2, q1, q2, d1, d2, D2, es2, ls2, _⟩ := Tm.ctx_at s inn 0 (by omega)
        have hwu : s.ws = pre2 ++ (u.ws ++ post2) := by rw [← es2]; exact D2.ws u
        have hul := Tm.ws_len u
        have hsall : s.sz = inn + (u.sz + post2.length) := by
          have := congrArg List.length hwu
          simp only [List.length_append, hsl, hul, ls2] at this
          exact this
        have hwtu : t.ws = (pre ++ pre2) ++ (u.ws ++ (post2 ++ post)) := by rw [hwt, hwu]; simp only [List.append_assoc]
        have hend : (t.ends 0)[at_ + inn]? = some (at_ + inn + u.sz) := by
          have := Tm.ends_ws hwtu 0
          rw [List.length_append, ls, ls2, Nat.zero_add] at this
          exact this
        -- last
        refine ⟨_, rfl, _, rfl, _, rfl, _, _, rfl, rfl, e, _, _, _, rfl, rfl, he6, at_of (j := at_ + inn) (by omega) (map_iV hend), ?_⟩
        -- taken
        have c3 : (s.ws.map eV).take inn = pre2.map eV := by rw [hwu, List.map_append, List.take_left' (by rw [List.length_map]; exact ls2)]
        refine ⟨_, rfl, _, rfl, _, rfl, pp, _, rfl, wp6, fun a1 H7 s7 w7 => ?_⟩
        rw [cut_to (by omega), c3] at w7
        refine ⟨a1, rfl, ⟨_, w7⟩, fun Dl nDl => lc_it (walk_tup (xs := pre2.map eV)) (fun j H' => Same H7 H' ∧ H' Dl = some (.lst (tkn (pre2.take j)))) ⟨same_new nDl _, upd_same⟩ (fun j H' _ pv => pv.1.tupd w7) (fun j y H2 H3 hj pv hy => ?_) (fun H8 pv => ?_)⟩
        · obtain ⟨rfl, hy⟩ := hy
          obtain ⟨s1, h1⟩ := pv
          obtain ⟨k, hk, rfl⟩ := map_at hy
          have kt : k ∈ t.ws := by
            rw [hwtu]
            exact List.mem_append_left _ (List.mem_append_right _ (List.mem_of_getElem? hk))
          have ok := hpg.wd kt
          refine ⟨rfl, _, rfl, 1, rfl, enc k, rfl, szl (Nat.le_trans (enc_len ok) (by decide)), rfl, isTk k, congrArg V.bl (first_sl ok), ?_⟩
          rw [tkn_step _ _ hk]
          cases k with
          | g => exact iteF ⟨s1, by rw [h1]; show _ = some (HO.lst (_ ++ [])); rw [List.append_nil]⟩
          | u x => exact iteF ⟨s1, by rw [h1]; show _ = some (HO.lst (_ ++ [])); rw [List.append_nil]⟩
          | t x =>
            have hle : (tkn (pre2.take j)).length ≤ 1000 := by
              unfold tkn
              rw [List.length_map]
              refine Nat.le_trans (List.length_filterMap_le _ _) (Nat.le_trans (List.length_take_le _ _) ?_)
              rw [List.length_map, ls2] at hj
              omega
            have eb : V.str (Txt.slice (enc (Tk.t x)) (some 1) none) = sV x := congrArg V.str (behind_sl x)
            obtain ⟨g1, g2, g3, g4⟩ := grow (y := V.str (Txt.slice (enc (Tk.t x)) (some 1) none)) s1 nDl h1 (Same.refl _) (by omega)
            refine iteT ⟨_, rfl, 1, rfl, _, rfl, szl (Nat.le_trans (enc_len ok) (by decide)), _, g1, g2, g3, ?_⟩
            rw [g4, eb]
            rfl
        · obtain ⟨s8, h8⟩ := pv
          rw [List.length_map, List.take_length] at h8
          have s68 := s7.trans s8
          have hw8 := hw6.same s68
          have he8 := s68.tupd he6
          have wp8 := s68.tupd wp6
          have p8 := p6.same s68
          have c4 : ((t.ws.map eV).drop (at_ + inn)).take (at_ + inn + u.sz - (at_ + inn)) = u.ws.map eV := by
            rw [hwtu, List.map_append, List.drop_left' (by simp only [List.length_map, List.length_append, ls, ls2]), List.map_append, show at_ + inn + u.sz - (at_ + inn) = u.sz by omega, List.take_left' (by rw [List.length_map]; exact hul)]
          have e9 : ((at_ : Nat) : Int) + ((inn : Nat) : Int) = ((at_ + inn : Nat) : Int) := by omega
          -- the part's words that are taken
          refine ⟨_, rfl, _, rfl, _, rfl, _, _, rfl, rfl, _, rfl, _, rfl, _, rfl, b, _, rfl, hw8, fun a2 H9 s9 w9 => ?_⟩
          rw [e9, cut_mid (by omega) (by omega), c4] at w9
          have h9 := s9 _ _ h8
          refine ⟨a2, rfl, ⟨_, w9⟩, fun Dm nDm => lc_it (walk_tup (xs := u.ws.map eV)) (fun j H' => ∃ acc : List V, Same H9 H' ∧ H' Dm = some (.lst acc) ∧ acc.length ≤ j ∧ (acc = [] → ∀ k ∈ u.ws.take j, inV (eV k) (tkn pre2) = false)) ⟨[], same_new nDm _, upd_same, Nat.le_refl _, (fun _ k hk => nomatch (show k ∈ ([] : List Wd) from hk))⟩ (fun j H' _ pv => pv.choose_spec.1.tupd w9) (fun j y H2 H3 hj pv hy => ?_) (fun Ha pv => ?_)⟩
          · obtain ⟨rfl, hy⟩ := hy
            obtain ⟨acc, s1, h1, hle, hin⟩ := pv
            obtain ⟨k, hk, rfl⟩ := map_at hy
            have hj' : j < u.sz := by
              rw [← hul]
              rw [List.length_map] at hj
              exact hj
            have htk : u.ws.take (j + 1) = u.ws.take j ++ [k] := by rw [List.take_add_one, hk]; rfl
            refine ⟨rfl, _, rfl, _, rfl, Dl, tkn pre2, rfl, .inl (seqL (s1 _ _ h9)), rfl, ?_, _, rfl, ?_⟩
            · exact sV_flat _
            · cases e : inV (eV k) (tkn pre2) with
              | true =>
                obtain ⟨g1, g2, g3, g4⟩ := grow (y := eV k) s1 nDm h1 (Same.refl _) (by omega)
                refine iteT ⟨_, rfl, _, g1, g2, _, g3, g4, ?_, ?_⟩
                · rw [List.length_append]; show acc.length + 1 ≤ j + 1; omega
                · intro e
                  exact absurd e (by simp)
              | false =>
                refine iteF ⟨acc, s1, h1, by omega, fun e0 k' hk' => ?_⟩
                rw [htk] at hk'
                rcases List.mem_append.mp hk' with h | h
                · exact hin e0 k' h
                · rw [List.mem_singleton.mp h]
                  exact e
          · obtain ⟨acc, sa, ha, _, hin⟩ := pv
            rw [List.length_map, List.take_length] at hin
            refine ⟨Dm, acc, rfl, .inl (seqL ha), rfl, decide (acc.length = 0), dI (decide_eq_decide.mpr (by omega)), ?_⟩
            have s6a := s68.trans (s9.trans sa)
            by_cases hacc : acc.length = 0
            · rw [decide_eq_true hacc]
              refine iteT ?_
              have hacc0 : acc = [] := List.length_eq_zero_iff.mp hacc
              have hul2 : u.ws.take (u.ws.map eV).length = u.ws := by rw [List.length_map, List.take_length]
              have free : ∀ x ∈ pre2.filterMap Tm.isT, x ∉ u.occ := fun x hx hu => by
                have h1 := hin hacc0 (.u x) (Tm.mem_occ.mp hu)
                have h2 : inV (eV (.u x)) (tkn pre2) = true := List.any_eq_true.mpr ⟨sV x, List.mem_map.mpr ⟨x, hx, rfl⟩, eqV_self x⟩
                rw [h1] at h2
                cases h2
              have hwa := hw6.same s6a
              have hea := s6a.tupd he6
              have wpa := s6a.tupd wp6
              have pa := p6.same s6a
              -- body
              refine ⟨_, rfl, _, rfl, _, rfl, pp, _, rfl, wpa, fun x1 I1 t1 v1 => ?_⟩
              rw [cut_to (by omega), c3] at v1
              refine ⟨_, rfl, szl (by show 1 ≤ 100000; decide), fun tp ntp => ?_⟩
              have t2 := same_new ntp (.tup [sV [122, 97 + i]])
              have v2 : SqT K (upd I1 tp (.tup [sV [122, 97 + i]])) tp (([Tk.u [122, 97 + i]] : List Wd).map eV) := .inl (.inl upd_same)
              generalize hI2 : upd I1 tp (.tup [sV [122, 97 + i]]) = I2 at t2 v2
              refine ⟨x1, tp, _, _, rfl, rfl, t2.tupd v1, v2, szl (by simp only [List.length_map, List.length_cons, List.length_nil, ls2]; omega), fun x3 I3 t3 v3 => ?_⟩
              have t13 := t1.trans (t2.trans t3)
              refine ⟨_, rfl, _, rfl, _, rfl, _, rfl, _, rfl, e, _, _, _, rfl, rfl, t13.tupd hea, atI_nat (map_iV ends_at), _, rfl, b, _, rfl, t13.tupd hwa, fun x4 I4 t4 v4 => ?_⟩
              have c5 : ((t.ws.map eV).drop (at_ + inn + u.sz)).take (0 + at_ + s.sz - (at_ + inn + u.sz)) = post2.map eV := by
                have : t.ws = (pre ++ pre2 ++ u.ws) ++ (post2 ++ post) := by rw [hwtu]; simp only [List.append_assoc]
                rw [this, List.map_append, List.drop_left' (by simp only [List.length_map, List.length_append, ls, ls2, hul]), List.map_append, show 0 + at_ + s.sz - (at_ + inn + u.sz) = post2.length by omega, List.take_left' (by rw [List.length_map])]
              rw [cut_mid (by omega) (by omega), c5] at v4
              refine ⟨x3, x4, _, _, rfl, rfl, t4.tupd v3, v4, szl (by simp only [List.length_append, List.length_map, List.length_cons, List.length_nil, ls2]; omega), fun x5 I5 t5 v5 => ?_⟩
              have t15 := t13.trans (t4.trans t5)
              -- words[:at]
              refine ⟨_, rfl, _, rfl, _, rfl, b, _, rfl, t15.tupd hwa, fun x6 I6 t6 v6 => ?_⟩
              rw [cut_to (by omega), c1] at v6
              have ez : (("/" : Str) ++ SX.S [122, 97 + i]) = enc (.t [122, 97 + i]) := by
                rw [lit_sl, SX.S_cat]
                rfl
              have eg : (V.str ("@" : Str)) = eV .g := by
                show V.str ("@" : Str) = V.str (SX.S [64])
                rw [lit_at]
              refine ⟨_, rfl, _, _, rfl, rfl, szl (by show 1 + 2 ≤ 100000; decide), szl (by show 2 ≤ 100000; decide), fun tq ntq => ?_⟩
              rw [ez, eg]
              have t7 := same_new ntq (.tup [eV .g, .str (enc (.t [122, 97 + i]))])
              have v7 : SqT K (upd I6 tq (.tup [eV .g, .str (enc (.t [122, 97 + i]))])) tq (([Tk.g, .t [122, 97 + i]] : List Wd).map eV) := .inl (.inl upd_same)
              generalize hI7 : upd I6 tq (.tup [eV .g, .str (enc (.t [122, 97 + i]))]) = I7 at t7 v7
              refine ⟨x6, tq, _, _, rfl, rfl, t7.tupd v6, v7, szl (by simp only [List.length_map, List.length_cons, List.length_nil, ls]; omega), fun x8 I8 t8 v8 => ?_⟩
              have t68 := t6.trans (t7.trans t8)
              refine ⟨_, rfl, x8, x5, _, _, rfl, rfl, v8, t68.tupd v5, szl (by simp only [List.length_append, List.length_map, List.length_cons, List.length_nil, ls, ls2]; omega), fun x9 I9 t9 v9 => ?_⟩
              have t19 := t15.trans (t68.trans t9)
              -- words[at + inner:last]
              refine ⟨_, rfl, _, rfl, _, rfl, _, _, rfl, rfl, _, rfl, _, rfl, _, rfl, b, _, rfl, t19.tupd hwa, fun xa Ia ta va => ?_⟩
              rw [e9, cut_mid (by omega) (by omega), c4] at va
              refine ⟨x9, xa, _, _, rfl, rfl, ta.tupd v9, va, szl (by simp only [List.length_append, List.length_map, List.length_cons, List.length_nil, ls, ls2, hul]; omega), fun xb Ib tb vb => ?_⟩
              have t1b := t19.trans (ta.trans tb)
              -- words[ends[at]:]
              refine ⟨_, rfl, _, rfl, _, rfl, e, _, _, _, rfl, rfl, t1b.tupd hea, atI_nat (map_iV ends_at), _, rfl, b, _, rfl, t1b.tupd hwa, fun xc Ic tc vc => ?_⟩
              rw [cut_from (by omega), c2] at vc
              refine ⟨xb, xc, _, _, rfl, rfl, tc.tupd vb, vc, szl (by simp only [List.length_append, List.length_map, List.length_cons, List.length_nil, ls, ls2, hul]; omega), fun xd Id td vd => ?_⟩
              have tAll := s6a.trans (t1b.trans (tc.trans td))
              subst es2
              subst es
              obtain ⟨pu, ew⟩ := Tm.put_part C D2 hpg.g.ok [122, 97 + i] free
              obtain ⟨hG', hzs'⟩ := grown_put hG h0 hf hzs pu
              refine ⟨_, _, _, _, _, _, _, _, _, _, xd, _, _, rfl, hG', by rw [List.length_cons]; omega, hzs', b05.trans (b6.trans (.of tAll)), p6.same tAll, ?_⟩
              show SqT K Id xd (_ : List V)
              rw [ew]
              simp only [List.map_append]
              simp only [List.append_assoc] at vd
              exact vd
            · rw [decide_eq_false hacc]
              refine iteF ?_
              exact ⟨_, _, _, _, _, _, _, _, _, _, b, t, zs, rfl, hG, by omega, fun x hx => by
                obtain ⟨j, hj, e⟩ := hzs x hx
                exact ⟨j, by omega, e⟩, b05.trans (b6.trans (.of s6a)), p6.same s6a, hw6.same s6a⟩
    · obtain ⟨o3, o4, o5, o6, o7, o8, o9, oa, ob, od, b, t, zs, rfl, hG, hl, hzs, b1, p1, hw1⟩ := pv
      exact ⟨_, rfl, q t zs b H1 hG hl hzs b1 p1 hw1⟩
end Ok
set_option maxRecDepth 100000
set_option maxHeartbeats 400000
/-! Programs called otherwise. -/
namespace Ok
open PySem PySem.Spec PyProof.Rows L2 HT
open Tm (Tk T Good Step Star nf)
variable {P : Program} {w : World} {K : PySem.W.Frag} {mg : Str → Option Value} {base : Heap}
/-! ### names given -/
def LowN (f : Nm) : Prop := f.length ≤ 6 ∧ ∀ c ∈ f, 97 ≤ c ∧ c ≤ 122
def mkN (k : Nat) : Nm := [97 + k / 26, 97 + k % 26]
def Form (s k : Nat) (x y : Nm) : Prop := (s = 0 ∧ y = x) ∨ (s = 1 ∧ ∃ f, LowN f ∧ y = mkN k ++ f) ∨ (2 ≤ s ∧ ∃ f, LowN f ∧ y = f ++ mkN k)
theorem mkN_inj {k j : Nat} (h : mkN k = mkN j) : k = j := by
  injection h with h1 h2
  injection h2 with h2 _
  omega
theorem form_inj {s k j : Nat} {x u y : Nm} (h1 : Form s k x y) (h2 : Form s j u y) : x = u ∨ k = j := by
  rcases h1 with ⟨rfl, e1⟩ | ⟨rfl, f, _, e1⟩ | ⟨hs, f, _, e1⟩
  · rcases h2 with ⟨_, e2⟩ | ⟨h, _⟩ | ⟨h, _⟩
    · exact .inl (e1.symm.trans e2)
    · omega
    · omega
  · rcases h2 with ⟨h, _⟩ | ⟨_, f', _, e2⟩ | ⟨h, _⟩
    · omega
    · rw [e1] at e2
      exact .inr (mkN_inj (List.append_inj e2 rfl).1)
    · omega
  · rcases h2 with ⟨h, _⟩ | ⟨h, _⟩ | ⟨_, f', _, e2⟩
    · omega
    · omega
    · rw [e1] at e2
      exact .inr (mkN_inj (List.append_inj' e2 rfl).2)
theorem form_ok {s k : Nat} {x y : Nm} (hx : OkN x) (hk : k < 676) (h : Form s k x y) : OkN y := by
  have m : ∀ c ∈ mkN k, 97 ≤ c ∧ c ≤ 122 := fun c hc => by
    have h1 : k / 26 < 26 := by omega
    have h2 : k % 26 < 26 := Nat.mod_lt _ (by decide)
    rcases List.mem_cons.mp hc with rfl | hc
    · omega
    · rw [List.mem_singleton.mp hc]
      omega
  rcases h with ⟨_, rfl⟩ | ⟨_, f, hf, rfl⟩ | ⟨_, f, hf, rfl⟩
  · exact hx
  · refine ⟨by rw [List.length_append]; show 1 ≤ 2 + f.length; omega, by rw [List.length_append]; show 2 + f.length ≤ 8; have := hf.1; omega, fun c hc => ?_⟩
    rcases List.mem_append.mp hc with h | h
    · exact m c h
    · exact hf.2 c h
  · refine ⟨by rw [List.length_append]; show 1 ≤ f.length + 2; omega, by rw [List.length_append]; show f.length + 2 ≤ 8; have := hf.1; omega, fun c hc => ?_⟩
    rcases List.mem_append.mp hc with h | h
    · exact hf.2 c h
    · exact m c h
/-- the names given so far -/
structure Book (s n : Nat) (g : Nm → Option Nm) (ix : Nm → Nat) : Prop where
  fm : ∀ x y, g x = some y → OkN x ∧ ix x < n ∧ Form s (ix x) x y
  inj : ∀ x y u v, g x = some y → g u = some v → ix x = ix u → x = u
theorem Book.start (s : Nat) : Book s 0 (fun _ => none) (fun _ => 0) := ⟨fun _ _ h => (by cases h), fun _ _ _ _ h => (by cases h)⟩
theorem Book.put {s n : Nat} {g : Nm → Option Nm} {ix : Nm → Nat} (h : Book s n g ix) {x y : Nm} (hx : OkN x) (hn : g x = none) (f : Form s n x y) : Book s (n + 1) (fun z => if z = x then some y else g z) (fun z => if z = x then n else ix z) := by
  constructor
  · intro a b hab
    by_cases e : a = x
    · rw [if_pos e] at hab ⊢
      cases hab
      subst e
      exact ⟨hx, by omega, f⟩
    · rw [if_neg e] at hab ⊢
      obtain ⟨h1, h2, h3⟩ := h.fm a b hab
      exact ⟨h1, by omega, h3⟩
  · intro a b u v hab huv
    by_cases e : a = x
    · by_cases e' : u = x
      · intro _
        rw [e, e']
      · rw [if_pos e, if_neg e']
        rw [if_neg e'] at huv
        have := (h.fm u v huv).2.1
        intro q
        omega
    · rw [if_neg e] at hab ⊢
      by_cases e' : u = x
      · rw [if_pos e']
        have := (h.fm a b hab).2.1
        intro q
        omega
      · rw [if_neg e']
        rw [if_neg e'] at huv
        exact h.inj a b u v hab huv
def nmIn (ws : List Wd) (x : Nm) : Prop := ∃ k ∈ ws, k ≠ .g ∧ nmOf k = x
def fnO (g : Nm → Option Nm) (x : Nm) : Nm := (g x).getD x
theorem Book.fn {s n : Nat} {g : Nm → Option Nm} {ix : Nm → Nat} (h : Book s n g ix) (hn : n ≤ 676) {x u : Nm} (hx : g x ≠ none) (hu : g u ≠ none) : OkN (fnO g x) ∧ (fnO g x = fnO g u → x = u) := by
  cases e : g x with
  | none => exact absurd e hx
  | some y =>
    cases e' : g u with
    | none => exact absurd e' hu
    | some v =>
      unfold fnO
      rw [e, e']
      obtain ⟨h1, h2, h3⟩ := h.fm x y e
      obtain ⟨k1, k2, k3⟩ := h.fm u v e'
      refine ⟨form_ok h1 (by omega) h3, fun q => ?_⟩
      have q : y = v := q
      subst q
      rcases form_inj h3 k3 with z | z
      · exact z
      · exact h.inj x y u y e e' z
/-- what the dictionary holds -/
def Holds (kvs : List (Key × V)) (g : Nm → Option Nm) : Prop := ∀ x, valV kvs (Sum.inr (SX.S x) : Key) = (g x).map sV
theorem Holds.put {kvs : List (Key × V)} {g : Nm → Option Nm} (h : Holds kvs g) (x y : Nm) : Holds (putK kvs (Sum.inr (SX.S x) : Key) (sV y)) (fun z => if z = x then some y else g z) := fun u => by
  rw [valV_put]
  by_cases e : u = x
  · rw [if_pos (by rw [e])]
    show some (sV y) = Option.map sV (if u = x then some y else g u)
    rw [if_pos e]
    rfl
  · rw [if_neg (fun z => e (SX.S_inj (Sum.inr.inj z)))]
    show valV kvs (Sum.inr (SX.S u) : Key) = Option.map sV (if u = x then some y else g u)
    rw [if_neg e]
    exact h u
theorem join_ones (f : List Nat) : TL.joinL [] (f.map fun c => [c]) = f := by
  induction f with
  | nil => rfl
  | cons c r ih =>
    cases r with
    | nil => rfl
    | cons d r =>
      show [c] ++ ([] ++ TL.joinL [] ((d :: r).map fun c => [c])) = c :: d :: r
      rw [ih]
      rfl
theorem tk_new {g : Nm → Option Nm} {ws : List Wd} (hk : ∀ x, nmIn ws x → g x ≠ none) {x y : Nm} (hn : g x = none) : ws.map (Tk.ren (fnO fun z => if z = x then some y else g z)) = ws.map (Tk.ren (fnO g)) := by
  refine List.map_congr_left fun k hk' => ?_
  have e : ∀ u, nmIn ws u → fnO (fun z => if z = x then some y else g z) u = fnO g u := fun u hu => by
    have : u ≠ x := fun e => hk u hu (by rw [e]; exact hn)
    show (if u = x then some y else g u).getD u = (g u).getD u
    rw [if_neg this]
  cases k with
  | g => rfl
  | t u => exact congrArg Tk.t (e u ⟨_, hk', (by intro z; cases z), rfl⟩)
  | u u => exact congrArg Tk.u (e u ⟨_, hk', (by intro z; cases z), rfl⟩)
theorem sum_ones (f : Nm) : ((f.map fun c => SX.S [c]).map (·.length)).sum = f.length := by
  induction f with
  | nil => rfl
  | cons c r ih =>
    rw [List.map_cons, List.map_cons, List.sum_cons, ih, SX.S_len]
    show 0 + 1 + r.length = r.length + 1
    omega
theorem join_fill (f : Nm) : V.str (Txt.join ("" : Str) (f.map fun c => SX.S [c])) = sV f := by
  have e : (f.map fun c => SX.S [c]) = (f.map fun c => [c]).map SX.S := by rw [List.map_map]; rfl
  rw [lit_nil, e, SX.join_S, join_ones]
  rfl
theorem sqT_updK {H : Hp} {a x : Addr} {xs : List V} {kvs : List (Key × V)} {o : HO} (h : SqT K H a xs) (hx : H x = some (.dK kvs)) : SqT K (upd H x o) a xs := by
  rcases h with (q | ⟨ob, q⟩) | q
  · exact .inl (.inl (by rw [upd_ne (ne_of q hx (by intro z; cases z))]; exact q))
  · exact .inl (.inr ⟨ob, by rw [upd_ne (ne_of q hx (by intro z; cases z))]; exact q⟩)
  · exact .inr q
def nmW : Wd → Nm
  | .g => [64]
  | .t x => x
  | .u x => x
theorem nmIn_snoc {ws : List Wd} {k : Wd} {x : Nm} (h : nmIn (ws ++ [k]) x) : nmIn ws x ∨ (k ≠ .g ∧ nmW k = x) := by
  obtain ⟨j, hj, hn, e⟩ := h
  rcases List.mem_append.mp hj with h | h
  · exact .inl ⟨j, h, hn, e⟩
  · have := List.mem_singleton.mp h
    subst this
    refine .inr ⟨hn, ?_⟩
    cases j with
    | g => exact absurd rfl hn
    | t y => exact e
    | u y => exact e
theorem okW_nm {k : Wd} (h : OkW k) (hn : k ≠ .g) : OkN (nmW k) := by
  cases k with
  | g => exact absurd rfl hn
  | t y => exact h
  | u y => exact h
def spCalled (K : PySem.W.Frag) : Sp := fun vs H Q _ => ∃ (z : Pt) (a : Addr) (ws : List Wd), vs = [.ref z.p, .ref a] ∧ PotAt H z ∧ SqT K H a (ws.map eV) ∧ ws.length ≤ 600 ∧ (∀ k ∈ ws, OkW k) ∧
  ∀ (f : Nm → Nm) b H', (∀ x, nmIn ws x → OkN (f x)) → (∀ x y, nmIn ws x → nmIn ws y → f x = f y → x = y) → But z H H' → PotAt H' z → SqT K H' b ((ws.map (Tk.ren f)).map eV) → Q (.ref b) H'
abbrev st_law_called : Stmt := topS 39
abbrev nm_law_called : List Str := ["_law_pot_here", "_law_words_here", "_law_style", "_law_letters_here", "_law_called_here", "_law_found", "_law_word", "_law_name", "_law_mark", "_law_fill", "_law_turn"]
theorem sc_law_called : FnScope nm_law_called ["_law_pot_here", "_law_words_here"] (C8.fnScope st_law_called) := ⟨rfl, rfl, rfl, by decide +kernel, rfl, by decide +kernel, by decide +kernel⟩
theorem ok_law_called (D : Dn K mg "_law_called" st_law_called ["_law_pot_here", "_law_words_here"]) (T : Bt mg) (c_law_draw : C8.Cal P w K mg base 1 "_law_draw" spDraw []) : C8.Cal P w K mg base 2 "_law_called" (spCalled K) [] := by
  obtain ⟨f, fd, F, b⟩ := D.ex
  have nd := sc_law_called.nd
  refine C8.cal0 F b .nil sc_law_called (fun vs H Q E h => ?_) (fun cdv A outer s H vs Q E hr h => ?_)
  · obtain ⟨z, a, ws, rfl, _⟩ := h
    rfl
  · obtain ⟨z, a, ws, rfl, hp, hw, hz, hok, q⟩ := h
    have hu := hu_of hr
    refine ⟨_, (pss_cons (ps_set (i := 2) nd rfl (.inl rfl) (C8.pe_c c_law_draw hr (by omega) rfl (pa_cons (pv 0) (pa_cons pe_int pa_nil))))
      (pss_cons (ps_set (i := 3) nd rfl (.inr rfl) pe_str)
      (pss_cons (ps_set (i := 4) nd rfl (.inl rfl) pe_dnewK)
      (pss_cons (ps_set (i := 5) nd rfl (.inl rfl) (pe_tup pa_nil))
      (pss_cons (ps_for PassesOwn.never rfl (pi_tup (pv 1)) (pg_name (i := 6) nd rfl (.inl rfl))
        (C8.pss_cut (ps_set (i := 7) nd rfl (.inl rfl) (pe_ifExp (pt_cmpR op_eq (pe_slice C8.sl_txt (pv 6) po_none (po_some pe_int)) pe_str (nomark _)) (pe_slice C8.sl_txt (pv 6) (po_some pe_int) po_none) (pv 6)))
          (C8.pss_cut (ps_if (PW.pt (pw_and (pt_cmpR op_ne (pv 6) pe_str (nomark _)) (pw_and1 (pt_cmp (pc_dnotin hu (pv 7) (pv 4))))))
            (pss_cons (ps_set (i := 8) nd rfl (.inl rfl) (pe_op op_add_str (pe_ix ix_str (pv 3) (pe_op op_fdiv (pe_callB call_lenD rfl T.z_len PySem.boot_len (pa_cons (pv 4) pa_nil)) pe_int) (fun _ _ => rfl)) (pe_ix ix_str (pv 3) (pe_op op_mod (pe_callTy call_int1 rfl T.z_int (by decide +kernel) (pa_cons (pe_callB call_lenD rfl T.z_len PySem.boot_len (pa_cons (pv 4) pa_nil)) pa_nil)) pe_int) (fun _ _ => rfl))))
              (C8.pss_cut (ps_set (i := 9) nd rfl (.inl rfl) (pe_join pe_str (pe_lc (own := [("_law_turn", 10)]) rfl nd (pi_range1 rfl T.z_range (pa_cons (C8.pe_c c_law_draw hr (by omega) rfl (pa_cons (pv 0) (pa_cons pe_int pa_nil))) pa_nil)) (blkOk_by (own := [("_law_turn", 10)]) (N := nm_law_called) (sc := C8.fnScope st_law_called) (by decide +kernel)) (fun _ _ _ _ _ => (pg_name (i := 10) nd rfl (.inl rfl) (.inr rfl))) (fun _ _ _ _ _ => pts_nil) (fun _ _ _ _ _ => (pe_ix ix_str (pv 3) (C8.pe_c c_law_draw hr (by omega) rfl (pa_cons (pv 0) (pa_cons pe_int pa_nil))) (fun _ _ => rfl))))))
              (pss_one (ps_dput hu (pv 4) (pv 7) (pe_ifExp (pt_cmpR op_eq (pv 2) pe_int (nomark _)) (pv 7) (pe_ifExp (pt_cmpR op_eq (pv 2) pe_int (nomark _)) (pe_op op_add_str (pv 8) (pv 9)) (pe_op op_add_str (pv 9) (pv 8)))) rfl))))
            pss_nil)
          (C8.pss_cut (ps_if (pt_cmpR op_ne (pv 6) pe_str (nomark _))
            (pss_one (ps_set (i := 6) nd rfl (.inl rfl) (pe_op op_add_str (pe_ifExp (pt_cmpR op_eq (pe_slice C8.sl_txt (pv 6) po_none (po_some pe_int)) pe_str (nomark _)) pe_str pe_str) (pe_dget hu (pv 4) (pv 7) (fun _ _ => rfl)))))
            pss_nil)
          (pss_one (ps_set (i := 5) nd rfl (.inl rfl) (pe_op op_catS (pv 5) (pe_tup (pa_cons (pv 6) pa_nil)))))))))
      (pss_one (ps_ret (pv 5)))))))), ?_⟩
    -- style, letters, called, found
    refine ⟨_, rfl, z, 3, rfl, by decide, by decide, hp, fun sty H1 hsty b1 p1 => fun d nd0 => ⟨szl (by show 0 ≤ 100000; decide), fun fo nfo => ?_⟩⟩
    have nd1 : H1 d = none := nd0
    have sd := same_new nd1 (.dK [])
    have sf : Same H1 (upd (upd H1 d (.dK [])) fo (.tup [])) := sd.newd nfo
    have nef : fo ≠ d := fun e => by
      rw [e, upd_same] at nfo
      cases nfo
    refine ⟨_, rfl, a, rfl, ⟨_, sf.tupd (b1.tup hp hw)⟩, for_tup (xs := ws.map eV) (fun i σ H' => ∃ (fo : Addr) (o6 o7 o8 o9 : Option V) (kvs : List (Key × V)) (g : Nm → Option Nm) (ix : Nm → Nat) (n : Nat), σ = [some (.ref z.p), some (.ref a), some (.int (sty : Nat)), some (.str ("abcdefghijklmnopqrstuvwxyz" : Str)), some (.ref d), some (.ref fo), o6, o7, o8, o9, none] ∧ kvs.length = n ∧ n ≤ i ∧ H' d = some (.dK kvs) ∧ Holds kvs g ∧ Book sty n g ix ∧ (∀ x, nmIn (ws.take i) x → g x ≠ none) ∧ But z H1 H' ∧ PotAt H' z ∧ SqT K H' fo (((ws.take i).map (Tk.ren (fnO g))).map eV))
      ⟨fo, none, none, none, none, [], _, _, 0, rfl, rfl, Nat.le_refl _, by rw [upd_ne nef.symm]; exact upd_same, fun x => rfl, Book.start sty, (fun x hx => by
        obtain ⟨k, hk, _⟩ := hx
        cases hk), .of sf, p1.same sf, .inl (.inl upd_same)⟩ (fun i σ H' hi pv => ?_) (fun i x σ H2 hx pv => ?_) (fun σ H2 pv => ?_)⟩
    · obtain ⟨fo, o6, o7, o8, o9, kvs, g, ix, n, _, _, _, _, _, _, _, bb, _, _⟩ := pv
      exact bb.tup p1 (b1.tup hp hw)
    · obtain ⟨fo, o6, o7, o8, o9, kvs, g, ix, n, rfl, hkl, hni, hd, hH, hB, hin, bb, p2, hf⟩ := pv
      obtain ⟨k, hk, rfl⟩ := map_at hx
      have hkm : k ∈ ws := List.mem_of_getElem? hk
      have ok := hok k hkm
      have hil : i < ws.length := (List.getElem?_eq_some_iff.mp hk).1
      have htk : ws.take (i + 1) = ws.take i ++ [k] := by rw [List.take_add_one, hk]; rfl
      have hat : V.str ("@" : Str) = eV .g := by
        show V.str ("@" : Str) = V.str (SX.S [64])
        rw [lit_at]
      have hne : (!decide (eV k = V.str ("@" : Str))) = !isG k := congrArg (! ·) (eq_at ok)
      -- name
      refine ⟨fun σ' H3 => σ' = [some (.ref z.p), some (.ref a), some (.int (sty : Nat)), some (.str ("abcdefghijklmnopqrstuvwxyz" : Str)), some (.ref d), some (.ref fo), some (eV k), some (sV (nmW k)), o8, o9, none] ∧ H3 = H2, ?_, fun σ' H3 hmid => ?_⟩
      · refine ⟨_, rfl, 1, rfl, enc k, rfl, szl (Nat.le_trans (enc_len ok) (by decide)), rfl, isTk k, congrArg V.bl (first_sl ok), ?_⟩
        cases k with
        | g => exact iteF ⟨_, rfl, rfl, rfl⟩
        | u x => exact iteF ⟨_, rfl, rfl, rfl⟩
        | t x =>
          refine iteT ⟨_, rfl, 1, rfl, _, rfl, szl (Nat.le_trans (enc_len ok) (by decide)), ?_, rfl⟩
          have eb : V.str (Txt.slice (enc (Tk.t x)) (some 1) none) = sV x := congrArg V.str (behind_sl x)
          rw [eb]
          rfl
      obtain ⟨rfl, rfl⟩ := hmid
      -- if
      refine ⟨fun σ' H4 => ∃ (o8 o9 : Option V) (kvs : List (Key × V)) (g : Nm → Option Nm) (ix : Nm → Nat) (n : Nat), σ' = [some (.ref z.p), some (.ref a), some (.int (sty : Nat)), some (.str ("abcdefghijklmnopqrstuvwxyz" : Str)), some (.ref d), some (.ref fo), some (eV k), some (sV (nmW k)), o8, o9, none] ∧ kvs.length = n ∧ n ≤ i + 1 ∧ H4 d = some (.dK kvs) ∧ Holds kvs g ∧ Book sty n g ix ∧ (∀ x, nmIn (ws.take (i + 1)) x → g x ≠ none) ∧ But z H1 H4 ∧ PotAt H4 z ∧ SqT K H4 fo (((ws.take i).map (Tk.ren (fnO g))).map eV), ?_, fun σ' H4 hmid => ?_⟩
      · refine ⟨_, rfl, rfl, !isG k, congrArg V.bl hne, ?_⟩
        by_cases hg : k = .g
        · subst hg
          refine iteF (iteF ⟨o8, o9, kvs, g, ix, n, rfl, hkl, by omega, hd, hH, hB, fun x hx => ?_, bb, p2, hf⟩)
          rw [htk] at hx
          rcases nmIn_snoc hx with h | ⟨h, _⟩
          · exact hin x h
          · exact absurd rfl h
        · have hgf : isG k = false := by
            cases k with
            | g => exact absurd rfl hg
            | _ => rfl
          rw [hgf]
          refine iteT ?_
          refine ⟨_, rfl, _, rfl, d, _, rfl, DGet.k (k := Sum.inr (SX.S (nmW k))) hd, !(g (nmW k)).isSome, by rw [hH (nmW k), Option.isSome_map], ?_⟩
          cases hgn : g (nmW k) with
          | some y =>
            refine iteF ⟨o8, o9, kvs, g, ix, n, rfl, hkl, by omega, hd, hH, hB, fun x hx => ?_, bb, p2, hf⟩
            rw [htk] at hx
            rcases nmIn_snoc hx with h | ⟨_, h⟩
            · exact hin x h
            · rw [← h, hgn]
              exact fun z => nomatch z
          | none =>
            refine iteT ?_
            have hnone : valV kvs (Sum.inr (SX.S (nmW k)) : Key) = none := by rw [hH (nmW k), hgn]; rfl
            have names : ∀ y, ∀ x, nmIn (ws.take (i + 1)) x → (fun z => if z = nmW k then some y else g z) x ≠ none := fun y x hx => by
              show (if x = nmW k then some y else g x) ≠ none
              by_cases e : x = nmW k
              · rw [if_pos e]
                exact fun z => nomatch z
              · rw [if_neg e]
                rw [htk] at hx
                rcases nmIn_snoc hx with h | ⟨_, h⟩
                · exact hin x h
                · exact absurd h.symm e
            have em : V.str (SX.S [97 + n / 26] ++ SX.S [97 + n % 26]) = sV (mkN n) := congrArg V.str (SX.S_cat _ _)
            have n26 : n % 26 < 26 := Nat.mod_lt _ (by decide)
            -- mark
            refine ⟨_, rfl, _, rfl, d, kvs, rfl, hd, _, 26, rfl, rfl, ⟨by omega, by decide⟩, _, _, _, rfl, rfl, abc_len, abc_ix (n := n / 26) (by omega) (by omega), ?_⟩
            refine ⟨_, rfl, _, rfl, d, kvs, rfl, hd, .inl ⟨_, rfl, _, 26, rfl, rfl, (by show (0 : Int) < 26; decide), _, _, _, rfl, rfl, abc_len, abc_ix (n := n % 26) (by omega) n26, ?_⟩⟩
            refine ⟨_, _, rfl, rfl, szl (by show 1 + 1 ≤ 100000; decide), ?_⟩
            -- fill
            refine ⟨fun σ' H4 => ∃ f : Nm, LowN f ∧ σ' = [some (.ref z.p), some (.ref a), some (.int (sty : Nat)), some (.str ("abcdefghijklmnopqrstuvwxyz" : Str)), some (.ref d), some (.ref fo), some (eV k), some (sV (nmW k)), some (sV (mkN n)), some (sV f), none] ∧ But z H3 H4 ∧ PotAt H4 z, ?_, fun σ' H4 hmid => ?_⟩
            · refine ⟨⟨_, rfl⟩, _, rfl, z, 7, rfl, by decide, by decide, p2, fun m H5 hm b5 p5 => ⟨_, rfl, by omega, by omega, fun D nD => ?_⟩⟩
              rw [Int.toNat_natCast]
              refine lc_it (walk_range (lo := 0) (n := m)) (fun j H' => ∃ f : Nm, f.length = j ∧ (∀ c ∈ f, 97 ≤ c ∧ c ≤ 122) ∧ But z H5 H' ∧ PotAt H' z ∧ H' D = some (.lst ((f.map fun c => SX.S [c]).map V.str))) ⟨[], rfl, (fun c hc => nomatch (show c ∈ ([] : List Nat) from hc)), .of (same_new nD _), p5.same (same_new nD _), upd_same⟩ (fun _ _ _ _ => trivial) (fun j y H6 H7 hj pv hy => ?_) (fun H6 pv => ?_)
              · obtain ⟨rfl, ey⟩ := hy
                obtain ⟨f, hfl, hfc, b6, p6, h6⟩ := pv
                refine ⟨rfl, _, rfl, _, rfl, z, 26, rfl, by decide, by decide, p6, fun r H8 hr b8 p8 => ⟨_, _, _, rfl, rfl, abc_len, abc_ix (n := r) rfl hr, _, b8.keep p5 nD h6, szt (by rw [List.length_map, List.length_map]; omega), ?_⟩⟩
                refine ⟨f ++ [97 + r], by rw [List.length_append, hfl]; rfl, fun c hc => ?_, (b6.trans b8).mutd nD, p5.mutd p8 nD, ?_⟩
                · rcases List.mem_append.mp hc with h | h
                  · exact hfc c h
                  · rw [List.mem_singleton.mp h]
                    omega
                · rw [upd_same, List.map_append, List.map_append]
                  rfl
              · obtain ⟨f, hfl, hfc, b6, p6, h6⟩ := pv
                refine ⟨_, D, f.map fun c => SX.S [c], rfl, rfl, .inl (seqL h6), ?_, f, ⟨by omega, hfc⟩, ?_, b5.trans b6, p6⟩
                · rw [sum_ones, lit_nil, SX.S_len]
                  show f.length + _ * 0 ≤ 16777216
                  omega
                · rw [join_fill, ← em]
                  rfl
            obtain ⟨f, hf6, rfl, b4, p4⟩ := hmid
            -- called[name]
            have three : sty = 0 ∨ sty = 1 ∨ sty = 2 := by omega
            refine ⟨_, rfl, rfl, decide (sty = 0), dI (decide_eq_decide.mpr (by omega)), ?_⟩
            rcases three with h3 | h3 | h3
            · rw [decide_eq_true h3]
              refine iteT ⟨_, rfl, ?_⟩
              refine ⟨_, rfl, _, rfl, d, _, rfl, DPut.k (k := Sum.inr (SX.S (nmW k))) (b4.keep p1 nd1 hd) (szt (by omega)), ?_⟩
              exact ⟨_, _, _, _, _, n + 1, rfl, by rw [putK_new _ hnone, List.length_append, hkl]; rfl, by omega, upd_same, hH.put (nmW k) _, hB.put (okW_nm ok hg) hgn (.inl ⟨h3, rfl⟩), names _, (bb.trans b4).mutd nd1, p1.mutd p4 nd1, by rw [tk_new hin hgn]; exact sqT_updK (b4.tup p2 hf) (b4.keep p1 nd1 hd)⟩
            · rw [decide_eq_false (by omega)]
              refine iteF ⟨_, rfl, rfl, true, dI (decide_eq_true (by omega)), iteT ⟨_, rfl, _, rfl, _, _, rfl, rfl, szl (by rw [SX.S_len, SX.S_len]; show 2 + f.length ≤ 100000; have := hf6.1; omega), ?_⟩⟩
              rw [show V.str (SX.S (mkN n) ++ SX.S f) = sV (mkN n ++ f) from congrArg V.str (SX.S_cat _ _)]
              refine ⟨_, rfl, _, rfl, d, _, rfl, DPut.k (k := Sum.inr (SX.S (nmW k))) (b4.keep p1 nd1 hd) (szt (by omega)), ?_⟩
              exact ⟨_, _, _, _, _, n + 1, rfl, by rw [putK_new _ hnone, List.length_append, hkl]; rfl, by omega, upd_same, hH.put (nmW k) _, hB.put (okW_nm ok hg) hgn (.inr (.inl ⟨h3, f, hf6, rfl⟩)), names _, (bb.trans b4).mutd nd1, p1.mutd p4 nd1, by rw [tk_new hin hgn]; exact sqT_updK (b4.tup p2 hf) (b4.keep p1 nd1 hd)⟩
            · rw [decide_eq_false (by omega)]
              refine iteF ⟨_, rfl, rfl, false, dI (decide_eq_false (by omega)), iteF ⟨_, rfl, _, rfl, _, _, rfl, rfl, szl (by rw [SX.S_len, SX.S_len]; show f.length + 2 ≤ 100000; have := hf6.1; omega), ?_⟩⟩
              rw [show V.str (SX.S f ++ SX.S (mkN n)) = sV (f ++ mkN n) from congrArg V.str (SX.S_cat _ _)]
              refine ⟨_, rfl, _, rfl, d, _, rfl, DPut.k (k := Sum.inr (SX.S (nmW k))) (b4.keep p1 nd1 hd) (szt (by omega)), ?_⟩
              exact ⟨_, _, _, _, _, n + 1, rfl, by rw [putK_new _ hnone, List.length_append, hkl]; rfl, by omega, upd_same, hH.put (nmW k) _, hB.put (okW_nm ok hg) hgn (.inr (.inr ⟨by omega, f, hf6, rfl⟩)), names _, (bb.trans b4).mutd nd1, p1.mutd p4 nd1, by rw [tk_new hin hgn]; exact sqT_updK (b4.tup p2 hf) (b4.keep p1 nd1 hd)⟩
      obtain ⟨o8, o9, kvs, g, ix, n, rfl, hkl, hni, hd, hH, hB, hin, bb, p2, hf⟩ := hmid
      refine ⟨fun σ' H5 => σ' = [some (.ref z.p), some (.ref a), some (.int (sty : Nat)), some (.str ("abcdefghijklmnopqrstuvwxyz" : Str)), some (.ref d), some (.ref fo), some (eV (Tk.ren (fnO g) k)), some (sV (nmW k)), o8, o9, none] ∧ H5 = H4, ?_, fun σ' H5 hmid => ?_⟩
      · refine ⟨_, rfl, rfl, !isG k, congrArg V.bl hne, ?_⟩
        cases k with
        | g => exact iteF ⟨rfl, rfl⟩
        | t x =>
          have hgx : g x ≠ none := hin x ⟨.t x, by rw [htk]; exact List.mem_append_right _ (List.mem_singleton.mpr rfl), (fun z => nomatch z), rfl⟩
          cases e : g x with
          | none => exact absurd e hgx
          | some y =>
            have hv : valV kvs (Sum.inr (SX.S x) : Key) = some (sV y) := by rw [hH x, e]; rfl
            have ef : fnO g x = y := by unfold fnO; rw [e]; rfl
            refine iteT ⟨_, rfl, 1, rfl, _, rfl, szl (Nat.le_trans (enc_len ok) (by decide)), rfl, true, congrArg V.bl (first_sl ok), iteT ⟨_, rfl, _, rfl, d, sV y, rfl, ?_, _, _, rfl, rfl, ?_, ?_⟩⟩
            · have := DGet.k (k := Sum.inr (SX.S x)) hd
              rw [hv] at this
              exact this
            · have oky := (hB.fn (by omega) hgx hgx).1
              rw [ef] at oky
              exact szl (by rw [SX.S_len]; show 1 + y.length ≤ 100000; have := oky.2.1; omega)
            · have : V.str (("/" : Str) ++ SX.S y) = eV (Tk.ren (fnO g) (.t x)) := by
                show _ = V.str (SX.S (47 :: fnO g x))
                rw [lit_sl, SX.S_cat, ef]
                rfl
              rw [this]
              exact ⟨rfl, rfl⟩
        | u x =>
          have hgx : g x ≠ none := hin x ⟨.u x, by rw [htk]; exact List.mem_append_right _ (List.mem_singleton.mpr rfl), (fun z => nomatch z), rfl⟩
          cases e : g x with
          | none => exact absurd e hgx
          | some y =>
            have hv : valV kvs (Sum.inr (SX.S x) : Key) = some (sV y) := by rw [hH x, e]; rfl
            have ef : fnO g x = y := by unfold fnO; rw [e]; rfl
            refine iteT ⟨_, rfl, 1, rfl, _, rfl, szl (Nat.le_trans (enc_len ok) (by decide)), rfl, false, congrArg V.bl (first_sl ok), iteF ⟨_, rfl, _, rfl, d, sV y, rfl, ?_, _, _, rfl, rfl, ?_, ?_⟩⟩
            · have := DGet.k (k := Sum.inr (SX.S x)) hd
              rw [hv] at this
              exact this
            · have oky := (hB.fn (by omega) hgx hgx).1
              rw [ef] at oky
              exact szl (by rw [SX.S_len]; show 0 + y.length ≤ 100000; have := oky.2.1; omega)
            · have : V.str (("" : Str) ++ SX.S y) = eV (Tk.ren (fnO g) (.u x)) := by
                show _ = V.str (SX.S (fnO g x))
                rw [lit_nil, SX.S_cat, ef]
                rfl
              rw [this]
              exact ⟨rfl, rfl⟩
      obtain ⟨rfl, rfl⟩ := hmid
      refine ⟨_, rfl, _, rfl, szl (by show 1 ≤ 100000; decide), fun tp ntp => ⟨fo, tp, _, _, rfl, rfl, (same_new ntp _).tupd hf, .inl (.inl upd_same), szl (by simp only [List.length_map, List.length_take, List.length_cons, List.length_nil]; omega), fun fo2 H6 s6 w6 => ?_⟩⟩
      have s56 := (same_new ntp (.tup [eV (Tk.ren (fnO g) k)])).trans s6
      refine ⟨fo2, _, _, o8, o9, kvs, g, ix, n, rfl, hkl, hni, s56 _ _ hd, hH, hB, hin, bb.trans (.of s56), p2.same s56, ?_⟩
      rw [htk, List.map_append, List.map_append]
      exact w6
    · obtain ⟨fo, o6, o7, o8, o9, kvs, g, ix, n, rfl, hkl, hni, hd, hH, hB, hin, bb, p2, hf⟩ := pv
      rw [List.length_map, List.take_length] at hin hf
      rw [List.length_map] at hni
      exact ⟨_, rfl, q (fnO g) fo H2 (fun x hx => (hB.fn (by omega) (hin x hx) (hin x hx)).1) (fun x y hx hy => (hB.fn (by omega) (hin x hx) (hin y hy)).2) (b1.trans bb) p2 hf⟩
end Ok
set_option maxRecDepth 100000
set_option maxHeartbeats 400000
/-! A program drawn, grown and marked. -/
namespace Ok
open PySem PySem.Spec PyProof.Rows L2 HT
open Tm (Tk T Good Step Star nf)
variable {P : Program} {w : World} {K : PySem.W.Frag} {mg : Str → Option Value} {base : Heap}
theorem nodup_ix {α : Type} {l : List α} (h : ∀ (i j : Nat) (x : α), l[i]? = some x → l[j]? = some x → i = j) : l.Nodup := by
  rw [List.Nodup, List.pairwise_iff_getElem]
  intro i j hi hj hij e
  have := h i j l[i] (List.getElem?_eq_getElem hi) (by rw [List.getElem?_eq_getElem hj, e])
  omega
/-- open names that a program may be drawn with -/
structure NmsOk (names : List Nm) (mk : Nat) : Prop where
  nd : names.Nodup
  ok : ∀ x ∈ names, OkN x ∧ 2 ≤ x.length ∧ x.head? ≠ some 113 ∧ x.head? ≠ some 122 ∧ x.head? ≠ some mk
  lo : 97 ≤ mk ∧ mk ≤ 122
theorem gen_bnd {names : List Nm} {n : Nat} {t : T Nm} (h : GenOk names n 3 t) (hn : n ≤ 7) {x : Nm} (hx : x ∈ t.bnd) : ∃ i, i < 8 ∧ t.bnd[i]? = some x ∧ (x = [100 + i] ∨ x = [113, 100 + i]) := by
  obtain ⟨i, hi⟩ := List.mem_iff_getElem?.mp hx
  have hl : i < t.bnd.length := (List.getElem?_eq_some_iff.mp hi).1
  have := h.bl
  refine ⟨i, by omega, hi, ?_⟩
  have := h.nm i x hi
  rw [show 97 + (3 + i) = 100 + i by omega] at this
  exact this
theorem gen_pg {names : List Nm} {n mk : Nat} {t : T Nm} (h : GenOk names n 3 t) (hN : NmsOk names mk) (hn : n ≤ 7) : Pg t ∧ (∀ x ∈ t.occ, x.head? ≠ some 122) ∧ ∀ x ∈ t.bnd, x.length ≤ 2 ∧ x ∉ names := by
  have fresh : ∀ x ∈ t.bnd, x.length ≤ 2 ∧ x ∉ names := fun x hx => by
    obtain ⟨i, hi, _, rfl | rfl⟩ := gen_bnd h hn hx
    · refine ⟨by simp, fun q => ?_⟩
      have := (hN.ok _ q).2.1
      simp at this
    · refine ⟨by simp, fun q => ?_⟩
      exact (hN.ok _ q).2.2.1 rfl
  have nb : t.bnd.Nodup := nodup_ix fun i j x hi hj => by
    have h1 := h.nm i x hi
    have h2 := h.nm j x hj
    rcases h1 with rfl | rfl <;> rcases h2 with e | e
    · injection e with e _
      omega
    · injection e with _ e
      cases e
    · injection e with _ e
      cases e
    · injection e with _ e
      injection e with e _
      omega
  have no : t.occ.Nodup := h.oc.nodup_iff.mpr (List.nodup_append.mpr ⟨hN.nd, nb, fun a ha b hb e => (fresh b hb).2 (e ▸ ha)⟩)
  refine ⟨⟨⟨h.ok, no, nb⟩, fun y hy => ?_⟩, fun x hx => ?_, fresh⟩
  · rcases List.mem_append.mp (h.oc.subset hy) with q | q
    · exact (hN.ok y q).1
    · obtain ⟨i, hi, _, rfl | rfl⟩ := gen_bnd h hn q
      · exact ⟨by simp, by simp, fun c hc => by
          simp only [List.mem_cons, List.not_mem_nil, or_false] at hc
          omega⟩
      · exact ⟨by simp, by simp, fun c hc => by
          simp only [List.mem_cons, List.not_mem_nil, or_false] at hc
          omega⟩
  · rcases List.mem_append.mp (h.oc.subset hx) with q | q
    · exact (hN.ok x q).2.2.2.1
    · obtain ⟨i, hi, _, rfl | rfl⟩ := gen_bnd h hn q
      · intro e
        injection e with e
        omega
      · intro e
        injection e with e
        omega
/-- the marked names -/
def mkF (names : List Nm) (mk : Nat) (x : Nm) : Nm := if x ∈ names then x else mk :: x
/-- what a drawn program is -/
structure DrawnOk (names : List Nm) (mk : Nat) (t : T Nm) : Prop where
  pg : Pg t
  sz : t.sz ≤ 40
  oc : t.occ.Perm (names ++ t.bnd)
  hd : ∀ x ∈ t.bnd, x.head? = some mk
theorem drawn_ok {names : List Nm} {n mk : Nat} {t0 t : T Nm} {zs : List Nm} (h : GenOk names n 3 t0) (hN : NmsOk names mk) (hn : n ≤ 7) (hG : Tm.Grown t0 t zs) (hl : zs.length ≤ 4) (hz : ZsOk zs 4) :
    DrawnOk names mk (t.ren (mkF names mk)) ∧ ∀ x ∈ t.bnd, x ∉ names := by
  obtain ⟨hp, hh, fresh⟩ := gen_pg h hN hn
  have hpg := grown_pg hG hp hz (by decide)
  have zfresh : ∀ x ∈ zs, x.length ≤ 2 ∧ x ∉ names := fun x hx => by
    obtain ⟨j, hj, rfl⟩ := hz x hx
    exact ⟨by simp, fun q => (hN.ok _ q).2.2.2.1 rfl⟩
  have bf : ∀ x ∈ t.bnd, x.length ≤ 2 ∧ x ∉ names := fun x hx => by
    rcases List.mem_append.mp (hG.bnd.subset hx) with q | q
    · exact zfresh x q
    · exact fresh x q
  have of : ∀ x ∈ t.occ, x ∈ names ∨ (x.length ≤ 2 ∧ x ∉ names) := fun x hx => by
    rcases List.mem_append.mp (hG.occ.subset hx) with q | q
    · exact .inr (zfresh x q)
    · rcases List.mem_append.mp (h.oc.subset q) with q | q
      · exact .inl q
      · exact .inr (fresh x q)
  have inj : Tm.InjOn (mkF names mk) t.occ := fun x hx y hy e => by
    unfold mkF at e
    by_cases h1 : x ∈ names
    · by_cases h2 : y ∈ names
      · rw [if_pos h1, if_pos h2] at e
        exact e
      · rw [if_pos h1, if_neg h2] at e
        exact absurd (by rw [e]; rfl) (hN.ok x h1).2.2.2.2
    · by_cases h2 : y ∈ names
      · rw [if_neg h1, if_pos h2] at e
        exact absurd (by rw [← e]; rfl) (hN.ok y h2).2.2.2.2
      · rw [if_neg h1, if_neg h2] at e
        injection e
  have oc : t.occ.Perm (names ++ t.bnd) := by
    refine hG.occ.trans ?_
    refine List.perm_iff_count.mpr fun x => ?_
    have e1 := List.perm_iff_count.mp h.oc x
    have e2 := List.perm_iff_count.mp hG.bnd x
    simp only [List.count_append] at e1 e2 ⊢
    omega
  refine ⟨⟨⟨Tm.ren_good hpg.g inj, fun y hy => ?_⟩, ?_, ?_, fun x hx => ?_⟩, fun x hx => (bf x hx).2⟩
  · rw [Tm.ren_occ] at hy
    obtain ⟨x, hx, rfl⟩ := List.mem_map.mp hy
    have okx := hpg.nm x hx
    unfold mkF
    rcases of x hx with q | ⟨q1, q2⟩
    · rw [if_pos q]
      exact okx
    · rw [if_neg q2]
      refine ⟨by simp, by simp only [List.length_cons]; omega, fun c hc => ?_⟩
      rcases List.mem_cons.mp hc with rfl | hc
      · exact hN.lo
      · exact okx.2.2 c hc
  · rw [Tm.ren_sz]
    have h1 := hG.sz
    have h2 := h.sz
    omega
  · rw [Tm.ren_occ, Tm.ren_bnd]
    refine (oc.map _).trans ?_
    rw [List.map_append]
    refine List.Perm.append_right _ ?_
    have : names.map (mkF names mk) = names := by
      refine (List.map_congr_left fun x hx => ?_).trans (List.map_id names)
      unfold mkF
      rw [if_pos hx]
      rfl
    rw [this]
  · rw [Tm.ren_bnd] at hx
    obtain ⟨y, hy, rfl⟩ := List.mem_map.mp hx
    unfold mkF
    rw [if_neg (bf y hy).2]
    rfl
theorem inV_names {names : List Nm} {x : Nm} : inV (sV x) (names.map sV) = decide (x ∈ names) := by
  rw [Bool.eq_iff_iff, decide_eq_true_iff]
  constructor
  · intro h
    obtain ⟨v, hv, e⟩ := List.any_eq_true.mp h
    obtain ⟨y, hy, rfl⟩ := List.mem_map.mp hv
    have e : (SX.S y == SX.S x) = true := e
    have := SX.S_inj (eq_of_beq e)
    subst this
    exact hy
  · intro h
    exact List.any_eq_true.mpr ⟨sV x, List.mem_map.mpr ⟨x, h, rfl⟩, eqV_self x⟩
theorem ButU.but {z : Pt} {u : Addr} {H1 H2 H' : Hp} {o : HO} (n : H1 u = none) (s : H2 = upd H1 u o) (h : ButU z u H2 H') : But z H1 H' := fun b ob h1 h2 q => by
  have hu : b ≠ u := fun e => by
    rw [e, n] at q
    cases q
  refine h b ob h1 h2 hu ?_
  rw [s, upd_ne hu]
  exact q
def spDrawn (K : PySem.W.Frag) : Sp := fun vs H Q _ => ∃ (z : Pt) (a : Addr) (names : List Nm) (mk : Nat), vs = [.ref z.p, .ref a, .str (SX.S [mk])] ∧ PotAt H z ∧ SqT K H a (names.map sV) ∧ names.length ≤ 3 ∧ NmsOk names mk ∧
  ∀ t b H', DrawnOk names mk t → But z H H' → PotAt H' z → Wds K H' b t → Zd H' b → Q (.ref b) H'
abbrev st_law_drawn : Stmt := topS 44
abbrev nm_law_drawn : List Str := ["_law_pot_here", "_law_names", "_law_mark", "_law_words_here", "_law_found", "_law_word"]
theorem sc_law_drawn : FnScope nm_law_drawn ["_law_pot_here", "_law_names", "_law_mark"] (C8.fnScope st_law_drawn) := ⟨rfl, rfl, rfl, by decide +kernel, rfl, by decide +kernel, by decide +kernel⟩
theorem ok_law_drawn (D : Dn K mg "_law_drawn" st_law_drawn ["_law_pot_here", "_law_names", "_law_mark"]) (T : Bt mg) (c_law_draw : C8.Cal P w K mg base 1 "_law_draw" spDraw []) (c_law_words : C8.Cal P w K mg base (3 + 23) "_law_words" (spWords K 23) []) (c_law_grown : C8.Cal P w K mg base 2 "_law_grown" (spGrown K) []) :
    C8.Cal P w K mg base 27 "_law_drawn" (spDrawn K) [] := by
  obtain ⟨f, fd, F, b⟩ := D.ex
  have nd := sc_law_drawn.nd
  refine C8.cal0 F b .nil sc_law_drawn (fun vs H Q E h => ?_) (fun cdv A outer s H vs Q E hr h => ?_)
  · obtain ⟨z, a, names, mk, rfl, _⟩ := h
    rfl
  · obtain ⟨z, a, names, mk, rfl, hp, hS, hn3, hN, q⟩ := h
    have two := Nat.le_refl 2
    refine ⟨_, (pss_cons (ps_set (i := 3) nd rfl (.inl rfl) (C8.pe_c c_law_words hr (by omega) rfl (pa_cons (pv 0) (pa_cons (pv 1) (pa_cons (pe_op op_add (pe_callB (call_max2 rfl) rfl T.z_max (by decide +kernel) (pa_cons (pe_op op_sub (pe_callB call_len_seq rfl T.z_len PySem.boot_len (pa_cons (pv 1) pa_nil)) pe_int) (pa_cons pe_int pa_nil))) (C8.pe_c c_law_draw hr (by omega) rfl (pa_cons (pv 0) (pa_cons pe_int pa_nil)))) (pa_cons (pe_lst (pa_cons pe_str (pa_cons pe_str (pa_cons pe_str pa_nil)))) pa_nil))))))
      (pss_cons (ps_set (i := 3) nd rfl (.inl rfl) (C8.pe_c c_law_grown hr (by omega) rfl (pa_cons (pv 0) (pa_cons (pv 3) (pa_cons (C8.pe_c c_law_draw hr (by omega) rfl (pa_cons (pv 0) (pa_cons pe_int pa_nil))) pa_nil)))))
      (pss_cons (ps_set (i := 4) nd rfl (.inl rfl) (pe_tupZ pa_nil))
      (pss_cons (ps_for PassesOwn.never rfl (pi_tup (pv 3)) (pg_name (i := 5) nd rfl (.inl rfl))
        (pss_cons (ps_if (PW.pt (pw_and (pt_cmpR op_ne (pv 5) pe_str (nomark _)) (pw_and1 (pt_cmpR op_notIn_seq (pv 5) (pv 1) rfl))))
            (pss_one (ps_set (i := 5) nd rfl (.inl rfl) (pe_ifExp (pt_cmpR op_eq (pe_slice C8.sl_txt (pv 5) po_none (po_some pe_int)) pe_str (nomark _)) (pe_op op_add_str (pe_op op_add_str pe_str (pv 2)) (pe_slice C8.sl_txt (pv 5) (po_some pe_int) po_none)) (pe_op op_add_str (pv 2) (pv 5)))))
            pss_nil)
          (pss_one (ps_set (i := 4) nd rfl (.inl rfl) (pe_op op_catZ (pv 4) (pe_tupZ (pa_cons (pv 5) pa_nil)))))))
      (pss_one (ps_ret (pv 4))))))), ?_⟩
    have hL : (names.map sV).length = names.length := List.length_map _
    -- words
    refine ⟨_, rfl, _, rfl, _, rfl, a, _, rfl, .inr hS, _, _, rfl, rfl, _, _, rfl, _, rfl, z, 6, rfl, by decide, by decide, hp, fun r H1 hr1 b1 p1 => ⟨_, _, rfl, rfl, szl (by show 3 ≤ 100000; decide), fun u nu => ?_⟩⟩
    have s1 := same_new nu (.lst [.str ("" : Str), .str ("" : Str), .str ("" : Str)])
    refine ⟨z, a, u, names, names.length - 1 + r, 3, _, congrArg (fun i => [V.ref z.p, V.ref a, V.int i, V.ref u]) ?_, p1.same s1, s1.tupd (b1.tup hp hS), upd_same, rfl, Beside.new p1 nu, by omega, by omega, by omega, by omega, fun t0 b0 H2 us hG bu2 p2 hu2 hul hw2 => ?_⟩
    · try dsimp only
      rw [hL]
      split <;> omega
    have b02 : But z H H2 := b1.trans (ButU.but nu rfl bu2)
    obtain ⟨hpg, hhd, _⟩ := gen_pg hG hN (by omega)
    have hsz := hG.sz
    -- grown
    refine ⟨_, rfl, _, rfl, _, rfl, z, 5, rfl, by decide, by decide, p2, fun m H3 hm b3 p3 => ⟨z, b0, t0, m, rfl, p3, hpg, hhd, by omega, by omega, b3.tup p2 hw2, fun t zs b4 H4 hGr hzl hzs bb4 p4 hw4 => ?_⟩⟩
    have b04 : But z H H4 := b02.trans (b3.trans bb4)
    obtain ⟨hD, hfr⟩ := drawn_ok hG hN (by omega) hGr (by omega) (fun x hx => by
      obtain ⟨j, hj, e⟩ := hzs x hx
      exact ⟨j, by omega, e⟩)
    have hpt := grown_pg hGr hpg hzs (by omega)
    have hSt : SqT K H4 a (names.map sV) := b04.tup hp hS
    have hsz2 := hGr.sz
    have hwl := Tm.ws_len t
    -- found
    refine ⟨szl (by show 0 ≤ 100000; decide), fun fo ob nfo zob => ?_⟩
    have sf := same_new nfo (.frz ob (.tup []))
    refine ⟨_, rfl, b4, rfl, ⟨_, sf.tupd hw4⟩, for_tup (xs := t.ws.map eV) (fun i σ H' => ∃ (fo : Addr) (o5 : Option V), σ = [some (.ref z.p), some (.ref a), some (.str (SX.S [mk])), some (.ref b4), some (.ref fo), o5] ∧ Same H4 H' ∧ SqT K H' fo (((t.ws.take i).map (Tk.ren (mkF names mk))).map eV) ∧ Zd H' fo)
      ⟨fo, none, rfl, sf, .inl (.inr ⟨ob, upd_same⟩), ob, _, upd_same, zob⟩ (fun i σ H' hi pv => ?_) (fun i x σ H5 hx pv => ?_) (fun σ H5 pv => ?_)⟩
    · obtain ⟨fo, o5, _, s5, _⟩ := pv
      exact s5.tupd hw4
    · obtain ⟨fo, o5, rfl, s5, hf, hzf⟩ := pv
      obtain ⟨k, hk, rfl⟩ := map_at hx
      have hkm : k ∈ t.ws := List.mem_of_getElem? hk
      have ok := hpt.wd hkm
      have hil : i < t.ws.length := (List.getElem?_eq_some_iff.mp hk).1
      have htk : t.ws.take (i + 1) = t.ws.take i ++ [k] := by rw [List.take_add_one, hk]; rfl
      have hne : (!decide (eV k = V.str ("@" : Str))) = !isG k := congrArg (! ·) (eq_at ok)
      have hS5 : SqT K H5 a (names.map sV) := s5.tupd hSt
      refine ⟨_, rfl, rfl, !isG k, congrArg V.bl hne, ?_⟩
      cases k with
      | g =>
        refine iteF (iteF ?_)
        refine ⟨_, rfl, _, rfl, szl (by show 1 ≤ 100000; decide), fun tp ob ntp zob => ⟨fo, tp, _, _, rfl, rfl, (same_new ntp _).tupd hf, .inl (.inr ⟨ob, upd_same⟩), szl (by simp only [List.length_map, List.length_take, List.length_cons, List.length_nil]; omega), fun fo2 H6 s6 w6 z6 => ?_⟩⟩
        refine ⟨fo2, _, rfl, s5.trans ((same_new ntp _).trans s6), ?_, z6 (hzf.same (same_new ntp _)) ⟨ob, _, upd_same, zob⟩⟩
        rw [htk, List.map_append, List.map_append]
        exact w6
      | t x =>
        have hxn : x ∉ names := hfr x (Tm.mem_bnd.mpr hkm)
        have ef : mkF names mk x = mk :: x := by unfold mkF; rw [if_neg hxn]
        have hni : inV (eV (.t x)) (names.map sV) = false := by
          show inV (sV (47 :: x)) (names.map sV) = false
          rw [inV_names]
          refine decide_eq_false fun h => ?_
          have := (hN.ok _ h).1.2.2 47 List.mem_cons_self
          omega
        refine iteT ⟨_, rfl, _, rfl, a, names.map sV, rfl, .inr hS5, rfl, sV_flat _, true, by rw [hni]; rfl, iteT ?_⟩
        have okl := enc_len ok
        have okx : OkN x := ok
        refine ⟨_, rfl, 1, rfl, _, rfl, szl (Nat.le_trans okl (by decide)), rfl, true, congrArg V.bl (first_sl ok), iteT ⟨_, rfl, _, _, rfl, rfl, szl (by show 1 + 1 ≤ 100000; decide), _, rfl, 1, rfl, _, rfl, szl (Nat.le_trans okl (by decide)), _, _, rfl, rfl, ?_, ?_⟩⟩
        · refine szl ?_
          rw [show Txt.slice (enc (Tk.t x)) (some 1) none = SX.S x from behind_sl x, lit_sl, SX.S_cat, SX.S_len, SX.S_len]
          show 2 + x.length ≤ 100000
          have := okx.2.1
          omega
        have e : V.str (("/" : Str) ++ SX.S [mk] ++ Txt.slice (enc (Tk.t x)) (some 1) none) = eV (Tk.ren (mkF names mk) (.t x)) := by
          rw [show Txt.slice (enc (Tk.t x)) (some 1) none = SX.S x from behind_sl x, lit_sl, SX.S_cat, SX.S_cat]
          show _ = V.str (SX.S (47 :: mkF names mk x))
          rw [ef]
          rfl
        rw [e]
        refine ⟨_, rfl, _, rfl, szl (by show 1 ≤ 100000; decide), fun tp ob ntp zob => ⟨fo, tp, _, _, rfl, rfl, (same_new ntp _).tupd hf, .inl (.inr ⟨ob, upd_same⟩), szl (by simp only [List.length_map, List.length_take, List.length_cons, List.length_nil]; omega), fun fo2 H6 s6 w6 z6 => ?_⟩⟩
        refine ⟨fo2, _, rfl, s5.trans ((same_new ntp _).trans s6), ?_, z6 (hzf.same (same_new ntp _)) ⟨ob, _, upd_same, zob⟩⟩
        rw [htk, List.map_append, List.map_append]
        exact w6
      | u x =>
        have okx : OkN x := ok
        have hsv : inV (eV (.u x)) (names.map sV) = decide (x ∈ names) := inV_names
        by_cases hxn : x ∈ names
        · have ef : Tk.ren (mkF names mk) (.u x) = .u x := by show Tk.u (mkF names mk x) = .u x; unfold mkF; rw [if_pos hxn]
          refine iteT ⟨_, rfl, _, rfl, a, names.map sV, rfl, .inr hS5, rfl, sV_flat _, false, by rw [hsv, decide_eq_true hxn]; rfl, iteF ?_⟩
          rw [← ef]
          refine ⟨_, rfl, _, rfl, szl (by show 1 ≤ 100000; decide), fun tp ob ntp zob => ⟨fo, tp, _, _, rfl, rfl, (same_new ntp _).tupd hf, .inl (.inr ⟨ob, upd_same⟩), szl (by simp only [List.length_map, List.length_take, List.length_cons, List.length_nil]; omega), fun fo2 H6 s6 w6 z6 => ?_⟩⟩
          refine ⟨fo2, _, rfl, s5.trans ((same_new ntp _).trans s6), ?_, z6 (hzf.same (same_new ntp _)) ⟨ob, _, upd_same, zob⟩⟩
          rw [htk, List.map_append, List.map_append]
          exact w6
        · have ef : mkF names mk x = mk :: x := by unfold mkF; rw [if_neg hxn]
          refine iteT ⟨_, rfl, _, rfl, a, names.map sV, rfl, .inr hS5, rfl, sV_flat _, true, by rw [hsv, decide_eq_false hxn]; rfl, iteT ?_⟩
          refine ⟨_, rfl, 1, rfl, _, rfl, szl (Nat.le_trans (enc_len ok) (by decide)), rfl, false, congrArg V.bl (first_sl ok), iteF ⟨_, rfl, _, rfl, _, _, rfl, rfl, szl (by rw [SX.S_len]; show 1 + (SX.S x).length ≤ 100000; rw [SX.S_len]; have := okx.2.1; omega), ?_⟩⟩
          have e : V.str (SX.S [mk] ++ enc (Tk.u x)) = eV (Tk.ren (mkF names mk) (.u x)) := by
            show V.str (SX.S [mk] ++ SX.S x) = V.str (SX.S (mkF names mk x))
            rw [ef, SX.S_cat]
            rfl
          rw [e]
          refine ⟨_, rfl, _, rfl, szl (by show 1 ≤ 100000; decide), fun tp ob ntp zob => ⟨fo, tp, _, _, rfl, rfl, (same_new ntp _).tupd hf, .inl (.inr ⟨ob, upd_same⟩), szl (by simp only [List.length_map, List.length_take, List.length_cons, List.length_nil]; omega), fun fo2 H6 s6 w6 z6 => ?_⟩⟩
          refine ⟨fo2, _, rfl, s5.trans ((same_new ntp _).trans s6), ?_, z6 (hzf.same (same_new ntp _)) ⟨ob, _, upd_same, zob⟩⟩
          rw [htk, List.map_append, List.map_append]
          exact w6
    · obtain ⟨fo, o5, rfl, s5, hf, hzf⟩ := pv
      rw [List.length_map, List.take_length] at hf
      refine ⟨_, rfl, q _ fo H5 hD (b04.trans (.of s5)) (p4.same s5) ?_ hzf⟩
      show SqT K H5 fo ((t.ren (mkF names mk)).ws.map eV)
      rw [Tm.ren_ws]
      exact hf
end Ok
set_option maxRecDepth 100000
set_option maxHeartbeats 400000
/-! The steps and the rest of a part. -/
namespace Ok
open PySem PySem.Spec PyProof.Rows L2 HT
open Tm (Tk T Good Step Star nf)
variable {P : Program} {w : World} {K : PySem.W.Frag} {mg : Str → Option Value} {base : Heap}
/-! ### the plain law -/
theorem ws_last : ∀ s : T Nm, ∃ (l : List Wd) (x : Nm), s.ws = l ++ [.u x]
  | .var x => ⟨[], x, rfl⟩
  | .app f a => by
    obtain ⟨l, x, e⟩ := ws_last a
    exact ⟨.g :: (f.ws ++ l), x, by show Tk.g :: (f.ws ++ a.ws) = _; rw [e]; simp⟩
  | .lam y b => by
    obtain ⟨l, x, e⟩ := ws_last b
    exact ⟨.t y :: l, x, by show Tk.t y :: b.ws = _; rw [e]; rfl⟩
theorem steps_part {t s : T Nm} {pre post : List Wd} (h : t.ws = pre ++ (s.ws ++ post)) : (stepsL t.ws).filter (fun p => decide (pre.length ≤ p) && decide (p < pre.length + s.sz)) = (stepsL s.ws).map (pre.length + ·) := by
  have hs0 := Tm.sz_pos s
  have hsl := Tm.ws_len s
  have hn : t.ws.length - 1 = pre.length + ((s.sz - 1) + post.length) := by
    rw [h]
    simp only [List.length_append, hsl]
    omega
  have at_s : ∀ q, q < s.sz → t.ws[pre.length + q]? = s.ws[q]? := fun q hq => by
    rw [h, List.getElem?_append_right (Nat.le_add_right _ _), Nat.add_sub_cancel_left, List.getElem?_append_left (by omega)]
  obtain ⟨l, x, el⟩ := ws_last s
  have hl : l.length = s.sz - 1 := by
    have := congrArg List.length el
    rw [hsl, List.length_append, List.length_singleton] at this
    omega
  have atl : s.ws[s.sz - 1]? = some (.u x) := by
    rw [el, List.getElem?_append_right (by omega), hl, Nat.sub_self]
    rfl
  unfold stepsL
  rw [hn, List.filter_filter, List.range_add, List.range_add, List.map_append, List.filter_append, List.filter_append, hsl]
  have z1 : (List.range pre.length).filter (fun a => (decide (pre.length ≤ a) && decide (a < pre.length + s.sz)) && stepB t.ws a) = [] := by
    refine List.filter_eq_nil_iff.mpr fun p hp => ?_
    have := List.mem_range.mp hp
    rw [decide_eq_false (show ¬ pre.length ≤ p by omega)]
    exact Bool.false_ne_true
  have z3 : (((List.range post.length).map ((s.sz - 1) + ·)).map (pre.length + ·)).filter (fun a => (decide (pre.length ≤ a) && decide (a < pre.length + s.sz)) && stepB t.ws a) = [] := by
    refine List.filter_eq_nil_iff.mpr fun p hp => ?_
    obtain ⟨p1, hp1, rfl⟩ := List.mem_map.mp hp
    obtain ⟨p2, hp2, rfl⟩ := List.mem_map.mp hp1
    cases p2 with
    | zero =>
      have : stepB t.ws (pre.length + (s.sz - 1 + 0)) = false := by
        rw [Nat.add_zero]
        cases e : stepB t.ws (pre.length + (s.sz - 1)) with
        | false => rfl
        | true =>
          have := (stepB_iff.mp e).1
          rw [at_s _ (by omega), atl] at this
          cases this
      rw [this, Bool.and_false]
      exact Bool.false_ne_true
    | succ q =>
      rw [decide_eq_false (show ¬ pre.length + (s.sz - 1 + (q + 1)) < pre.length + s.sz by omega), Bool.and_false, Bool.false_and]
      exact Bool.false_ne_true
  rw [z1, z3, List.nil_append, List.append_nil, List.filter_map]
  refine congrArg _ (List.filter_congr fun p hp => ?_)
  have hp := List.mem_range.mp hp
  show ((decide (pre.length ≤ pre.length + p) && decide (pre.length + p < pre.length + s.sz)) && stepB t.ws (pre.length + p)) = stepB s.ws p
  rw [decide_eq_true (Nat.le_add_right _ _), decide_eq_true (by omega), Bool.true_and, Bool.true_and]
  unfold stepB
  rw [at_s p (by omega), Nat.add_assoc, at_s (p + 1) (by omega)]
/-! ### lists of places as data -/
def dN (ns : List Nat) : PyData := .list (ns.map fun n => .int (n : Nat))
theorem dN_all {H : Hp} : ∀ ns : List Nat, DpAll K H (ns.map iV) (ns.map fun n => .int (n : Nat))
  | [] => .nil
  | n :: ns => .cons (.int _) (dN_all ns)
theorem dN_of {H : Hp} {a : Addr} {ns : List Nat} (h : SqL K H a (ns.map iV)) : Dp K H (.ref a) (dN ns) := .lst h (dN_all ns)
theorem dN_shaped (ns : List Nat) : SeqAt.shaped (dN ns) = true := by
  have h1 : ∀ ns : List Nat, PyData.canLayAll0 (ns.map fun n => .int (n : Nat)) = true := by
    intro ns
    induction ns with
    | nil => rfl
    | cons n ns ih =>
      show (true && PyData.canLayAll0 (ns.map fun n => .int (n : Nat))) = true
      rw [ih]
      rfl
  have h2 : ∀ ns : List Nat, PyData.depthAll (ns.map fun n => .int (n : Nat)) = 0 := by
    intro ns
    induction ns with
    | nil => rfl
    | cons n ns ih =>
      show max 0 (PyData.depthAll (ns.map fun n => .int (n : Nat))) = 0
      rw [ih]
      rfl
  show (PyData.canLayAll0 (ns.map fun n => .int (n : Nat)) && decide (PyData.depthAll (ns.map fun n => .int (n : Nat)) + 1 ≤ 64)) = true
  rw [h1, h2]
  rfl
theorem dN_refl (ns : List Nat) : PyData.eqv (dN ns) (dN ns) = true := SeqAt.eqv_refl _ (SeqAt.canLay_of_shaped (dN_shaped ns))
def spParts (K : PySem.W.Frag) : Sp := fun vs H Q _ => ∃ (z : Pt) (a : Addr) (t : T Nm), vs = [.ref z.p, .ref a] ∧ PotAt H z ∧ Pg t ∧ t.sz ≤ 500 ∧ Wds K H a t ∧ ∀ H', But z H H' → PotAt H' z → Q (.bl true) H'
abbrev st_law_parts : Stmt := topS 43
abbrev nm_law_parts : List Str := ["_law_pot_here", "_law_words_here", "_law_at", "_law_end", "_law_inner", "_law_whole", "_law_place", "_law_back"]
theorem sc_law_parts : FnScope nm_law_parts ["_law_pot_here", "_law_words_here"] (C8.fnScope st_law_parts) := ⟨rfl, rfl, rfl, by decide +kernel, rfl, by decide +kernel, by decide +kernel⟩
theorem ok_law_parts {CP CR : Addr} (D : Dn K mg "_law_parts" st_law_parts ["_law_pot_here", "_law_words_here"]) (T : Bt mg) (ct : Ct K mg CP CR) (c_law_draw : C8.Cal P w K mg base 1 "_law_draw" spDraw []) (c_law_ends : C8.Cal P w K mg base 1 "_law_ends" (spEnds K) [])
    (c_steps : C8.Cal P w K mg base 4 "steps" (spSteps K CP CR) []) (c_law_rested : C8.Cal P w K mg base 8 "_law_rested" (spRested K) []) (c_Program : C8.Mak P w K mg base 6 "Program" CP (spInit K CP) []) :
    C8.Cal P w K mg base 9 "_law_parts" (spParts K) [] := by
  obtain ⟨f, fd, F, b⟩ := D.ex
  have nd := sc_law_parts.nd
  refine C8.cal0 F b .nil sc_law_parts (fun vs H Q E h => ?_) (fun cdv A outer s H vs Q E hr h => ?_)
  · obtain ⟨z, a, t, rfl, _⟩ := h
    rfl
  · obtain ⟨z, a, t, rfl, hp, hpg, hz, hw, q⟩ := h
    refine ⟨_, (pss_cons (ps_set (i := 2) nd rfl (.inr rfl) (C8.pe_c c_law_draw hr (by omega) rfl (pa_cons (pv 0) (pa_cons (pe_callB call_len_seq rfl T.z_len PySem.boot_len (pa_cons (pv 1) pa_nil)) pa_nil))))
      (pss_cons (ps_set (i := 3) nd rfl (.inr rfl) (pe_ix ix_tup (C8.pe_c c_law_ends hr (by omega) rfl (pa_cons (pv 1) pa_nil)) (pv 2) (fun _ _ => rfl)))
      (pss_cons (ps_set (i := 4) nd rfl (.inl rfl) (C8.pe_c c_steps hr (by omega) rfl (pa_cons (C8.pe_mk c_Program hr (by omega) rfl (pa_cons (pe_slice sl_tupS (pv 1) (po_some (pv 2)) (po_some (pv 3))) pa_nil)) pa_nil)))
      (pss_cons (ps_set (i := 5) nd rfl (.inl rfl) (C8.pe_c c_steps hr (by omega) rfl (pa_cons (C8.pe_mk c_Program hr (by omega) rfl (pa_cons (pv 1) pa_nil)) pa_nil)))
      (pss_cons (ps_if (PW.pt (pw_or (pt_not (pt_val (pe_callB call_isi rfl T.z_isinstance (by decide +kernel) (pa_cons (pv 4) (pa_cons (pe_bltn (v := .ty "tuple") rfl T.z_tuple (by decide +kernel) rfl) pa_nil))))) (pw_or1 (pt_not (pt_val (pe_callB call_isi rfl T.z_isinstance (by decide +kernel) (pa_cons (pv 5) (pa_cons (pe_bltn (v := .ty "tuple") rfl T.z_tuple (by decide +kernel) rfl) pa_nil))))))))
        (pss_one (ps_ret pe_bl))
        pss_nil)
      (pss_cons (ps_if (pt_cmpR (op_neD hr.units) (pe_lc (own := [("_law_place", 6)]) rfl nd (pi_tup (pv 4)) (blkOk_by (own := [("_law_place", 6)]) (N := nm_law_parts) (sc := C8.fnScope st_law_parts) (by decide +kernel)) (fun _ _ _ _ _ => (pg_name (i := 6) nd rfl (.inl rfl) (.inr rfl))) (fun _ _ _ _ _ => pts_nil) (fun _ _ _ _ _ => (pe_op op_add (pv 6) (pv 2)))) (pe_lc (own := [("_law_place", 6)]) rfl nd (pi_tup (pv 5)) (blkOk_by (own := [("_law_place", 6)]) (N := nm_law_parts) (sc := C8.fnScope st_law_parts) (by decide +kernel)) (fun _ _ _ _ _ => (pg_name (i := 6) nd rfl (.inl rfl) (.inr rfl))) (fun _ _ _ _ _ => pts_one (pt_chain op_le op_lt (pv 2) (pv 6) (pv 3))) (fun _ _ _ _ _ => (pv 6))) (nomark _))
        (pss_one (ps_ret pe_bl))
        pss_nil)
      (pss_cons (ps_set (i := 7) nd rfl (.inl rfl) (C8.pe_c c_law_rested hr (by omega) rfl (pa_cons (pe_slice sl_tupS (pv 1) (po_some (pv 2)) (po_some (pv 3))) pa_nil)))
      (pss_cons (ps_if (pt_cmpR op_isN (pv 7) pe_non (nomark _))
        (pss_one (ps_ret pe_bl))
        pss_nil)
      (pss_one (ps_ret (pe_cmpR (op_eqD hr.units) (C8.pe_c c_law_rested hr (by omega) rfl (pa_cons (pe_op op_catS (pe_op op_catS (pe_slice sl_tupS (pv 1) po_none (po_some (pv 2))) (pv 7)) (pe_slice sl_tupS (pv 1) (po_some (pv 3)) po_none)) pa_nil)) (C8.pe_c c_law_rested hr (by omega) rfl (pa_cons (pv 1) pa_nil)) (nomark _)))))))))))), ?_⟩
    have hwl := Tm.ws_len t
    have hL : (t.ws.map eV).length = t.sz := by rw [List.length_map, hwl]
    have ht0 := Tm.sz_pos t
    -- at, end
    refine ⟨_, rfl, _, rfl, a, _, rfl, .inr hw, z, (t.ws.map eV).length, rfl, by omega, by omega, hp, fun at_ H1 hat b1 p1 => ?_⟩
    have hw1 : Wds K H1 a t := b1.tup hp hw
    obtain ⟨F', s', pre, post, o1, o2, bb1, bb2, C, es, ls, ends_at⟩ := Tm.ctx_at t at_ 0 (by omega)
    have hwt : t.ws = pre ++ (s'.ws ++ post) := by rw [← es]; exact C.ws s'
    have hsl := Tm.ws_len s'
    have hall : t.sz = at_ + (s'.sz + post.length) := by
      have := congrArg List.length hwt
      simp only [List.length_append, hwl, hsl, ls] at this
      exact this
    have spg : Pg s' := ⟨C.good (by rw [es]; exact hpg.g), fun y hy => hpg.nm y (by rw [← es, C.occ]; exact List.mem_append_right _ (List.mem_append_left _ hy))⟩
    have c1 : (t.ws.map eV).take at_ = pre.map eV := by rw [hwt, List.map_append, List.take_left' (by rw [List.length_map]; exact ls)]
    have c2 : (t.ws.map eV).drop (0 + at_ + s'.sz) = post.map eV := by
      rw [hwt, ← List.append_assoc, List.map_append, List.drop_left' (by simp only [List.length_map, List.length_append, ls, hsl]; omega)]
    have c3 : ((t.ws.map eV).drop at_).take (0 + at_ + s'.sz - at_) = s'.ws.map eV := by
      rw [hwt, List.map_append, List.drop_left' (by rw [List.length_map]; exact ls), List.map_append, show 0 + at_ + s'.sz - at_ = s'.sz by omega, List.take_left' (by rw [List.length_map]; exact hsl)]
    refine ⟨_, rfl, a, t, rfl, hpg, by omega, hw1, fun e H2 s2 he => ⟨_, rfl, e, _, _, _, rfl, rfl, he, atI_nat (map_iV ends_at), ?_⟩⟩
    have hw2 := hw1.same s2
    -- inner
    refine ⟨_, rfl, _, rfl, _, rfl, _, rfl, _, rfl, a, _, rfl, hw2, fun pp H3 s3 w3 => ?_⟩
    rw [cut_mid (by omega) (by omega), c3] at w3
    refine fun x dx nx ndx ne => ⟨x, pp, dx, s', rfl, upd_same, spg, by omega, Wds.same w3 ((same_new ndx _).newd (by rw [upd_ne ne.symm]; exact nx)), fun H4 H5 s4 e5 => ⟨rfl, ?_⟩⟩
    obtain ⟨s5, hx⟩ := made_prog (CR := CR) nx ndx ne w3 s4 e5
    refine ⟨x, s', rfl, spg, by omega, hx, fun l1 H6 s6 hl1 => ?_⟩
    have s26 := s3.trans (s5.trans s6)
    -- whole
    refine ⟨_, rfl, fun x2 dx2 nx2 ndx2 ne2 => ⟨x2, a, dx2, t, rfl, upd_same, hpg, by omega, (hw2.same s26).same ((same_new ndx2 _).newd (by rw [upd_ne ne2.symm]; exact nx2)), fun H7 H8 s7 e8 => ⟨rfl, ?_⟩⟩⟩
    obtain ⟨s8, hx2⟩ := made_prog (CR := CR) nx2 ndx2 ne2 (hw2.same s26) s7 e8
    refine ⟨x2, t, rfl, hpg, by omega, hx2, fun l2 H9 s9 hl2 => ?_⟩
    have s69 := s8.trans s9
    have hl1' : SqT K H9 l1 ((stepsL s'.ws).map iV) := .inl (.inl (s69 _ _ hl1))
    have hl2' : SqT K H9 l2 ((stepsL t.ws).map iV) := .inl (.inl hl2)
    have hw9 := hw2.same (s26.trans s69)
    have p9 := p1.same (s2.trans (s26.trans s69))
    have b9 : But z H H9 := b1.trans (.of (s2.trans (s26.trans s69)))
    -- tuples
    refine ⟨_, rfl, _, _, .type "tuple", .type "tuple", true, rfl, .ty _, tup_ty hl1', kit_ty (by decide +kernel), true, rfl, iteF ⟨_, rfl, _, _, .type "tuple", .type "tuple", true, rfl, .ty _, tup_ty hl2', kit_ty (by decide +kernel), true, rfl, iteF ?_⟩⟩
    -- the places of the part
    have b0 : ∀ {H'}, Same H9 H' → But z H H' := fun s => b9.trans (.of s)
    refine ⟨_, rfl, l1, rfl, ⟨_, hl1'⟩, fun D1 nD1 => lc_it (walk_tup (xs := (stepsL s'.ws).map iV)) (fun j H' => Same H9 H' ∧ H' D1 = some (.lst ((((stepsL s'.ws).map (pre.length + ·)).take j).map iV))) ⟨same_new nD1 _, upd_same⟩ (fun j H' _ pv => pv.1.tupd hl1') (fun j y H2 H3 hj pv hy => ?_) (fun Ha pv => ?_)⟩
    · obtain ⟨rfl, hy⟩ := hy
      obtain ⟨s1, h1⟩ := pv
      rw [List.getElem?_map] at hy
      obtain ⟨n, hn, rfl⟩ := Option.map_eq_some_iff.mp hy
      have hle : ((stepsL s'.ws).map (pre.length + ·)).length ≤ 1000 := by
        rw [List.length_map]
        exact Nat.le_trans (List.length_filter_le _ _) (by rw [List.length_range]; omega)
      obtain ⟨g1, g2, g3, g4⟩ := grow (y := V.int ((n : Nat) + (at_ : Nat))) s1 nD1 h1 (Same.refl _) (by rw [List.length_map]; exact Nat.lt_of_le_of_lt (List.length_take_le' _ _) (by omega))
      refine ⟨rfl, _, rfl, _, rfl, _, _, rfl, rfl, _, g1, g2, g3, ?_⟩
      rw [g4, List.take_add_one, List.getElem?_map, hn, List.map_append]
      have : V.int ((n : Nat) + (at_ : Nat)) = iV (pre.length + n) := by
        show _ = V.int ((pre.length + n : Nat) : Nat)
        rw [ls]
        congr 1
        omega
      rw [this]
      rfl
    obtain ⟨sa, ha⟩ := pv
    rw [List.length_map, List.take_of_length_le (by rw [List.length_map]; exact Nat.le_refl _)] at ha
    have hl2a : SqT K Ha l2 ((stepsL t.ws).map iV) := sa.tupd hl2'
    -- the places of the whole
    refine ⟨_, rfl, l2, rfl, ⟨_, hl2a⟩, fun D2 nD2 => lc_it (walk_tup (xs := (stepsL t.ws).map iV)) (fun j H' => Same Ha H' ∧ H' D2 = some (.lst ((((stepsL t.ws).take j).filter (fun p => decide (pre.length ≤ p) && decide (p < pre.length + s'.sz))).map iV))) ⟨same_new nD2 _, upd_same⟩ (fun j H' _ pv => pv.1.tupd hl2a) (fun j y H2 H3 hj pv hy => ?_) (fun Hb pv => ?_)⟩
    · obtain ⟨rfl, hy⟩ := hy
      obtain ⟨s1, h1⟩ := pv
      rw [List.getElem?_map] at hy
      obtain ⟨n, hn, rfl⟩ := Option.map_eq_some_iff.mp hy
      have htk : (stepsL t.ws).take (j + 1) = (stepsL t.ws).take j ++ [n] := by rw [List.take_add_one, hn]; rfl
      have hle : ((stepsL t.ws).take j).length ≤ 1000 := Nat.le_trans (List.length_take_le' _ _) (Nat.le_trans (List.length_filter_le _ _) (by rw [List.length_range]; omega))
      rw [htk, List.filter_append]
      have no : (decide (pre.length ≤ n) && decide (n < pre.length + s'.sz)) = false → Same Ha H3 ∧ H3 D2 = some (.lst (((((stepsL t.ws).take j).filter (fun p => decide (pre.length ≤ p) && decide (p < pre.length + s'.sz))) ++ [n].filter (fun p => decide (pre.length ≤ p) && decide (p < pre.length + s'.sz))).map iV)) := fun h => by
        rw [List.filter_cons_of_neg (by rw [h]; exact Bool.false_ne_true), List.filter_nil, List.append_nil]
        exact ⟨s1, h1⟩
      refine ⟨rfl, _, rfl, _, rfl, _, _, rfl, rfl, _, rfl, ite2 (fun h2 => ?_) (fun h2 => ?_)⟩
      · have h2 : (at_ : Int) ≤ (n : Int) := of_decide_eq_true h2
        refine ⟨_, rfl, _, _, rfl, rfl, _, rfl, ite2 (fun h3 => ?_) (fun h3 => ?_)⟩
        · have h3 : (n : Int) < ((0 + at_ + s'.sz : Nat) : Int) := of_decide_eq_true h3
          have h4 : (decide (pre.length ≤ n) && decide (n < pre.length + s'.sz)) = true := by
            rw [decide_eq_true (by omega), decide_eq_true (by omega)]
            rfl
          obtain ⟨g1, g2, g3, g4⟩ := grow (y := iV n) s1 nD2 h1 (Same.refl _) (by rw [List.length_map]; exact Nat.lt_of_le_of_lt (List.length_filter_le _ _) (by omega))
          refine ⟨_, rfl, _, g1, g2, g3, ?_⟩
          rw [g4, List.filter_cons_of_pos (p := fun p => decide (pre.length ≤ p) && decide (p < pre.length + s'.sz)) h4, List.map_append]
          rfl
        · have h3 : ¬ (n : Int) < ((0 + at_ + s'.sz : Nat) : Int) := fun z => h3 (decide_eq_true z)
          exact no (by rw [decide_eq_false (show ¬ n < pre.length + s'.sz by omega), Bool.and_false])
      · have h2 : ¬ (at_ : Int) ≤ (n : Int) := fun z => h2 (decide_eq_true z)
        exact ⟨_, rfl, iteF (no (by rw [decide_eq_false (show ¬ pre.length ≤ n by omega), Bool.false_and]))⟩
    obtain ⟨sb, hb⟩ := pv
    rw [List.length_map, List.take_length, steps_part hwt] at hb
    refine ⟨_, _, dN_of (seqL (sb _ _ ha)), dN_of (seqL hb), dN_shaped _, dN_shaped _, ?_⟩
    rw [dN_refl]
    refine ⟨_, rfl, iteF ?_⟩
    have s9b := sa.trans sb
    have hwb := hw9.same s9b
    -- back
    refine ⟨_, rfl, _, rfl, _, rfl, _, rfl, _, rfl, a, _, rfl, hwb, fun pq Hc sc wc => ?_⟩
    rw [cut_mid (by omega) (by omega), c3] at wc
    refine ⟨pq, s', rfl, spg, by omega, wc, fun back Hd sd hback _ => ?_⟩
    have sbd := sc.trans sd
    refine ⟨_, rfl, rfl, false, rfl, iteF ?_⟩
    have hwd := hwb.same sbd
    subst es
    obtain ⟨hg1, hg2⟩ := C.put hpg.g
    have ew : (F' (nf s')).ws = pre ++ ((nf s').ws ++ post) := C.ws _
    have sn := Tm.star_names (Tm.nf_rest spg.g).st spg.g
    have pg' : Pg (F' (nf s')) := ⟨hg1, fun y hy => by
      rw [C.occ] at hy
      refine hpg.nm y ?_
      rw [C.occ]
      rcases List.mem_append.mp hy with h | h
      · exact List.mem_append_left _ h
      · rcases List.mem_append.mp h with h | h
        · exact List.mem_append_right _ (List.mem_append_left _ (sn.1 y h))
        · exact List.mem_append_right _ (List.mem_append_right _ h)⟩
    have nfl := Tm.ws_len (nf s')
    have szn := sn.2.2.2
    have sz' : (F' (nf s')).sz ≤ 500 := by
      rw [← Tm.ws_len, ew]
      simp only [List.length_append, nfl, ls]
      omega
    -- words[:at] + back + words[end:]
    refine ⟨_, rfl, _, rfl, _, rfl, a, _, rfl, hwd, fun x1 I1 t1 v1 => ?_⟩
    rw [cut_to (by omega), c1] at v1
    refine ⟨_, rfl, x1, back, _, _, rfl, rfl, v1, hback.same t1, szl (by simp only [List.length_map, ls, nfl]; omega), fun x2 I2 t2 v2 => ?_⟩
    have t12 := t1.trans t2
    refine ⟨_, rfl, _, rfl, _, rfl, a, _, rfl, hwd.same t12, fun x3 I3 t3 v3 => ?_⟩
    rw [cut_from (by omega), c2] at v3
    refine ⟨x2, x3, _, _, rfl, rfl, t3.tupd v2, v3, szl (by simp only [List.length_append, List.length_map, ls, nfl]; omega), fun x4 I4 t4 v4 => ?_⟩
    have t14 := t12.trans (t3.trans t4)
    refine ⟨x4, F' (nf s'), rfl, pg', by omega, ?_, fun r1 I5 t5 v5 _ => ?_⟩
    · show SqT K I4 x4 ((F' (nf s')).ws.map eV)
      rw [ew, List.map_append, List.map_append, ← List.append_assoc]
      exact v4
    refine ⟨_, rfl, a, F' s', rfl, hpg, by omega, hwd.same (t14.trans t5), fun r2 I6 t6 v6 _ => ?_⟩
    have v5' := v5.same t6
    rw [hg2] at v5'
    have okw : ∀ k ∈ (nf (F' s')).ws, OkW k := fun k hk => hpg.nf.wd hk
    refine ⟨_, _, dW_of v5', dW_of v6, dW_shaped okw, dW_shaped okw, ?_⟩
    rw [dW_refl okw]
    have sAll := s9b.trans (sbd.trans (t14.trans (t5.trans t6)))
    exact q I6 (b9.trans (.of sAll)) (p9.same sAll)
end Ok
set_option maxRecDepth 100000
set_option maxHeartbeats 400000
/-! The law: plain part. -/
namespace Ok
open PySem PySem.Spec PyProof.Rows L2 HT
open Tm (Tk T Good Step Star nf)
variable {P : Program} {w : World} {K : PySem.W.Frag} {mg : Str → Option Value} {base : Heap}
def near : Nm := [110, 101, 97, 114]
def N1 : List Nm := [near, [111, 112, 101, 110], [112, 112]]
def N2 : List Nm := [[102, 97, 114], [115, 104, 117, 116]]
theorem lit_near : ("near" : Str) = SX.S near := by decide +kernel
theorem lit_slnear : ("/near" : Str) = SX.S (47 :: near) := by decide +kernel
theorem lit_open : ("open" : Str) = SX.S [111, 112, 101, 110] := by decide +kernel
theorem lit_pp : ("pp" : Str) = SX.S [112, 112] := by decide +kernel
theorem lit_far : ("far" : Str) = SX.S [102, 97, 114] := by decide +kernel
theorem lit_shut : ("shut" : Str) = SX.S [115, 104, 117, 116] := by decide +kernel
theorem lit_m : ("m" : Str) = SX.S [109] := by decide +kernel
theorem lit_w : ("w" : Str) = SX.S [119] := by decide +kernel
theorem okN_of {x : Nm} (h : nmB x = true) : OkN x := by
  unfold nmB at h
  rw [Bool.and_eq_true, Bool.and_eq_true, List.all_eq_true] at h
  refine ⟨of_decide_eq_true h.1, of_decide_eq_true h.2.1, fun c hc => ?_⟩
  have := h.2.2 c hc
  rw [Bool.and_eq_true] at this
  exact ⟨of_decide_eq_true this.1, of_decide_eq_true this.2⟩
theorem NmsOk.take {N : List Nm} {mk : Nat} (h : NmsOk N mk) (k : Nat) : NmsOk (N.take k) mk := ⟨h.nd.sublist (List.take_sublist _ _), fun x hx => h.ok x (List.mem_of_mem_take hx), h.lo⟩
theorem n1_ok : NmsOk N1 109 := ⟨by decide, fun x hx => by
  simp only [N1, List.mem_cons, List.not_mem_nil, or_false] at hx
  rcases hx with rfl | rfl | rfl <;> exact ⟨okN_of (by decide), by decide, by decide, by decide, by decide⟩, by decide⟩
theorem n2_ok : NmsOk N2 119 := ⟨by decide, fun x hx => by
  simp only [N2, List.mem_cons, List.not_mem_nil, or_false] at hx
  rcases hx with rfl | rfl <;> exact ⟨okN_of (by decide), by decide, by decide, by decide, by decide⟩, by decide⟩
theorem heads1 {n : Nat} {t : T Nm} (h : DrawnOk (N1.take n) 109 t) {y : Nm} (hy : y ∈ t.occ) : y.head? = some 109 ∨ y.head? = some 110 ∨ y.head? = some 111 ∨ y.head? = some 112 := by
  rcases List.mem_append.mp (h.oc.subset hy) with q | q
  · have := List.mem_of_mem_take q
    simp only [N1, List.mem_cons, List.not_mem_nil, or_false] at this
    rcases this with rfl | rfl | rfl
    · exact .inr (.inl rfl)
    · exact .inr (.inr (.inl rfl))
    · exact .inr (.inr (.inr rfl))
  · exact .inl (h.hd y q)
theorem heads2 {n : Nat} {t : T Nm} (h : DrawnOk (N2.take n) 119 t) {y : Nm} (hy : y ∈ t.occ) : y.head? = some 119 ∨ y.head? = some 102 ∨ y.head? = some 115 := by
  rcases List.mem_append.mp (h.oc.subset hy) with q | q
  · have := List.mem_of_mem_take q
    simp only [N2, List.mem_cons, List.not_mem_nil, or_false] at this
    rcases this with rfl | rfl
    · exact .inr (.inl rfl)
    · exact .inr (.inr rfl)
  · exact .inl (h.hd y q)
theorem at_name {t : T Nm} (hp : Pg t) {x : Nm} (hx : x ∈ t.occ) : ∃ bp bq : List Wd, t.ws = bp ++ Tk.u x :: bq ∧ (t.ws.map enc)[bp.length]? = some (SX.S x) ∧ (∀ m, m < bp.length → (t.ws.map enc)[m]? ≠ some (SX.S x)) ∧
    ∀ a, Pg a → Good (t.sub x a) → Pg (t.sub x a) ∧ (t.sub x a).ws = bp ++ (a.ws ++ bq) ∧ (t.sub x a).sz + 1 = t.sz + a.sz := by
  obtain ⟨bp, bq, o1, o2, b1, b2, e1, e2, e3, q⟩ := Tm.sub_in x t hx hp.g.no
  have at0 : t.ws[bp.length]? = some (.u x) := by
    rw [e1, List.getElem?_append_right (Nat.le_refl _), Nat.sub_self]
    rfl
  refine ⟨bp, bq, e1, by rw [List.getElem?_map, at0]; rfl, fun m hm e => ?_, fun a ha hg => ?_⟩
  · rw [List.getElem?_map] at e
    obtain ⟨k, hk, ek⟩ := Option.map_eq_some_iff.mp e
    have : k = .u x := enc_inj (hp.at hk) (hp.at at0) ek
    subst this
    have := hp.g.once (w := .u x) (fun z => nomatch z) hk at0
    omega
  · obtain ⟨q1, q2, q3, q4, q5⟩ := q a
    refine ⟨⟨hg, fun y hy => ?_⟩, q1, q5⟩
    rw [q2] at hy
    rcases List.mem_append.mp hy with h | h
    · exact hp.nm y (by rw [e2]; exact List.mem_append_left _ h)
    · rcases List.mem_append.mp h with h | h
      · exact ha.nm y h
      · exact hp.nm y (by rw [e2]; exact List.mem_append_right _ (List.mem_cons_of_mem _ h))
structure Both (t o : T Nm) : Prop where
  x : near ∈ t.occ
  b : near ∉ t.bnd
  g : Good (t.sub near o)
  rx : near ∈ (nf t).occ
  rg : Good ((nf t).sub near (nf o))
  e : nf ((nf t).sub near (nf o)) = nf (t.sub near o)
  l : Pg (.lam near t)
theorem both_ok {n1 n2 : Nat} {t o : T Nm} (ht : DrawnOk (N1.take (1 + n1)) 109 t) (ho : DrawnOk (N2.take n2) 119 o) : Both t o := by
  have hx : near ∈ t.occ := ht.oc.symm.subset (List.mem_append_left _ (by
    rw [Nat.add_comm]
    exact List.mem_cons_self))
  have hb : near ∉ t.bnd := fun q => by
    have := ht.hd _ q
    cases this
  have d1 : ∀ y ∈ t.occ, y ∉ o.occ := fun y h1 h2 => by
    rcases heads1 ht h1 with e | e | e | e <;> rcases heads2 ho h2 with e' | e' | e' <;> rw [e] at e' <;> cases e'
  have d2 : ∀ y ∈ t.bnd, y ∉ o.bnd := fun y h1 h2 => by
    have e := ht.hd y h1
    have e' := ho.hd y h2
    rw [e] at e'
    cases e'
  have bo : ∀ y ∈ t.bnd, y ∈ t.occ := fun y h => Tm.bnd_occ ht.pg.g.ok h
  obtain ⟨q1, q2, q3, q4⟩ := Tm.nf_sub ht.pg.g ho.pg.g hx hb (fun y h _ => d1 y h) d2 fun y h => d1 y (bo y h)
  exact ⟨hx, hb, Tm.good_sub ht.pg.g ho.pg.g hx hb (fun y h _ => d1 y h) d2, q1, q3, q4, ⟨⟨hx, ht.pg.g.ok⟩, ht.pg.g.no, List.nodup_cons.mpr ⟨hb, ht.pg.g.nb⟩⟩, fun y hy => ht.pg.nm y hy⟩
theorem neI {i j : Int} (h : i = j) : V.bl (!decide (V.int i = V.int j)) = V.bl false := by
  subst h
  rw [decide_eq_true rfl]
  rfl
theorem nmIn_ws {t : T Nm} {ws : List Wd} (h : ∀ k ∈ t.ws, k ∈ ws) {x : Nm} (hx : x ∈ t.occ) : nmIn ws x := ⟨.u x, h _ (Tm.mem_occ.mp hx), (fun z => nomatch z), rfl⟩
end Ok
set_option maxRecDepth 100000
set_option maxHeartbeats 2000000
/-! The law's walk. -/
namespace Ok
open PySem PySem.Spec PyProof.Rows L2 HT
open Tm (Tk T Good Step Star nf)
variable {P : Program} {w : World} {K : PySem.W.Frag} {mg : Str → Option Value} {base : Heap}
theorem Zd.but {z : Pt} {H H' : Hp} {a : Addr} (h : Zd H a) (b : But z H H') (p : PotAt H z) : Zd H' a := by
  obtain ⟨ob, u, h1, h2⟩ := h
  obtain ⟨gs, ss, t, m, k1, k2, k3, k4, k5⟩ := p
  exact ⟨ob, u, b _ _ (ne_of h1 k1 (by intro z; cases z)) (ne_of h1 k2 (by intro z; cases z)) h1, h2⟩
theorem lit_slnear_v : V.str ("/near" : Str) = eV (.t near) := by
  show _ = V.str (SX.S (47 :: near))
  rw [lit_slnear]
theorem lit_at_v : V.str ("@" : Str) = eV .g := by
  show _ = V.str (SX.S [64])
  rw [lit_at]
def spLaw (K : PySem.W.Frag) : Sp := fun vs H Q _ => ∃ (a : Addr) (ns : List Int), vs = [.ref a] ∧ SqL K H a (ns.map V.int) ∧ ns.length ≤ 63 ∧ ∀ H', Q (.bl true) H'
abbrev st_law : Stmt := topS 45
abbrev nm_law : List Str := ["_law_script", "_law_pot_here", "_law_turn", "_law_words_here", "_law_other", "_law_at", "_law_last", "_law_inner", "_law_both", "_law_due", "_law_named", "_law_first", "_law_then"]
theorem sc_law : FnScope nm_law ["_law_script"] (C8.fnScope st_law) := ⟨rfl, rfl, rfl, by decide +kernel, rfl, by decide +kernel, by decide +kernel⟩
theorem ok_law {CP CR f : Addr} {fd : FuncData} (F : C8.Def K mg "law" st_law f fd) (T : Bt mg) (ct : Ct K mg CP CR) (c_law_pot : C8.Cal P w K mg base 1 "_law_pot" (spPot K) []) (c_law_draw : C8.Cal P w K mg base 1 "_law_draw" spDraw [])
    (c_law_drawn : C8.Cal P w K mg base 27 "_law_drawn" (spDrawn K) []) (c_law_parts : C8.Cal P w K mg base 9 "_law_parts" (spParts K) []) (c_law_rested : C8.Cal P w K mg base 8 "_law_rested" (spRested K) [])
    (c_many_steps : C8.Cal P w K mg base 8 "many_steps" (spMany K CP CR) []) (c_rest : C8.Cal P w K mg base 7 "rest" (spRest K CP CR) []) (c_Program : C8.Mak P w K mg base 6 "Program" CP (spInit K CP) [])
    (c_law_called : C8.Cal P w K mg base 2 "_law_called" (spCalled K) []) (c_law_is_number : C8.Cal P w K mg base 1 "_law_is_number" spIsNumber []) (c_law_is_words : C8.Cal P w K mg base 1 "_law_is_words" (spIsWords K CR) []) :
    FnOk P w K mg base C8.CX0 28 f fd ["_law_script"] (spLaw K) := by
  have nd := sc_law.nd
  refine C8.fn0 F.fn sc_law (fun vs H Q E h => ?_) (fun cdv A outer s H vs Q E hr h => ?_)
  · obtain ⟨a, ns, rfl, _⟩ := h
    rfl
  · obtain ⟨a, ns, rfl, hS, hn, q⟩ := h
    refine ⟨_, (pss_cons (ps_set (i := 1) nd rfl (.inl rfl) (C8.pe_c c_law_pot hr (by omega) rfl (pa_cons (pv 0) pa_nil)))
      (pss_cons (ps_for PassesOwn.never rfl (pi_range1 rfl T.z_range (pa_cons pe_int pa_nil)) (pg_name (i := 2) nd rfl (.inl rfl))
        (pss_cons (ps_set (i := 3) nd rfl (.inl rfl) (C8.pe_c c_law_drawn hr (by omega) rfl (pa_cons (pv 1) (pa_cons (pe_slice sl_tupS (pe_tup (pa_cons pe_str (pa_cons pe_str (pa_cons pe_str pa_nil)))) po_none (po_some (pe_op op_add pe_int (C8.pe_c c_law_draw hr (by omega) rfl (pa_cons (pv 1) (pa_cons pe_int pa_nil)))))) (pa_cons pe_str pa_nil)))))
          (pss_cons (ps_set (i := 4) nd rfl (.inl rfl) (C8.pe_c c_law_drawn hr (by omega) rfl (pa_cons (pv 1) (pa_cons (pe_slice sl_tupS (pe_tup (pa_cons pe_str (pa_cons pe_str pa_nil))) po_none (po_some (C8.pe_c c_law_draw hr (by omega) rfl (pa_cons (pv 1) (pa_cons pe_int pa_nil))))) (pa_cons pe_str pa_nil)))))
          (pss_cons (ps_if (PW.pt (pw_or (pt_not (pt_val (C8.pe_c c_law_parts hr (by omega) rfl (pa_cons (pv 1) (pa_cons (pv 3) pa_nil))))) (pw_or1 (pt_not (pt_val (C8.pe_c c_law_parts hr (by omega) rfl (pa_cons (pv 1) (pa_cons (pv 4) pa_nil))))))))
            (pss_one (ps_ret pe_bl))
            pss_nil)
          (pss_cons (ps_set (i := 5) nd rfl (.inl rfl) (pe_tix (pv 3) (pa_cons pe_str pa_nil)))
          (pss_cons (ps_set (i := 6) nd rfl (.inl rfl) (C8.pe_c c_law_rested hr (by omega) rfl (pa_cons (pv 3) pa_nil)))
          (pss_cons (ps_set (i := 7) nd rfl (.inl rfl) (C8.pe_c c_law_rested hr (by omega) rfl (pa_cons (pv 4) pa_nil)))
          (pss_cons (ps_if (PW.pt (pw_or (pt_cmpR op_isN (pv 6) pe_non (nomark _)) (pw_or (pt_cmpR op_isN (pv 7) pe_non (nomark _)) (pw_or1 (pt_cmpR op_notIn_seq pe_str (pv 6) rfl)))))
            (pss_one (ps_ret pe_bl))
            pss_nil)
          (pss_cons (ps_set (i := 8) nd rfl (.inl rfl) (pe_op op_catS (pe_op op_catS (pe_slice sl_tupS (pv 3) po_none (po_some (pv 5))) (pv 4)) (pe_slice sl_tupS (pv 3) (po_some (pe_op op_add (pv 5) pe_int)) po_none)))
          (pss_cons (ps_set (i := 5) nd rfl (.inl rfl) (pe_tix (pv 6) (pa_cons pe_str pa_nil)))
          (pss_cons (ps_set (i := 9) nd rfl (.inl rfl) (C8.pe_c c_law_rested hr (by omega) rfl (pa_cons (pe_op op_catS (pe_op op_catS (pe_slice sl_tupS (pv 6) po_none (po_some (pv 5))) (pv 7)) (pe_slice sl_tupS (pv 6) (po_some (pe_op op_add (pv 5) pe_int)) po_none)) pa_nil)))
          (pss_cons (ps_if (PW.pt (pw_or (pt_cmpR op_isN (pv 9) pe_non (nomark _)) (pw_or (pt_cmpR (op_neD hr.units) (C8.pe_c c_law_rested hr (by omega) rfl (pa_cons (pv 8) pa_nil)) (pv 9) (nomark _)) (pw_or1 (pt_cmpR (op_neD hr.units) (C8.pe_c c_law_rested hr (by omega) rfl (pa_cons (pe_op op_catS (pe_tup (pa_cons pe_str pa_nil)) (pv 3)) pa_nil)) (pe_op op_catS (pe_tup (pa_cons pe_str pa_nil)) (pv 6)) (nomark _))))))
            (pss_one (ps_ret pe_bl))
            pss_nil)
          (pss_cons (ps_if (pt_cmpR op_ne (C8.pe_c c_many_steps hr (by omega) rfl (pa_cons (C8.pe_mk c_Program hr (by omega) rfl (pa_cons (pe_op op_catS (pe_tup (pa_cons pe_str pa_nil)) (pv 3)) pa_nil)) pa_nil)) (C8.pe_c c_many_steps hr (by omega) rfl (pa_cons (C8.pe_mk c_Program hr (by omega) rfl (pa_cons (pv 3) pa_nil)) pa_nil)) (nomark _))
            (pss_one (ps_ret pe_bl))
            pss_nil)
          (pss_cons (ps_set (i := 10) nd rfl (.inl rfl) (C8.pe_c c_law_called hr (by omega) rfl (pa_cons (pv 1) (pa_cons (pe_op op_catS (pe_op op_catS (pe_tup (pa_cons pe_str pa_nil)) (pv 8)) (pv 9)) pa_nil))))
          (pss_cons (ps_par (i := 11) (j := 12) rfl nd rfl rfl (by decide) rfl rfl (pa_cons (pe_slice sl_tupS (pv 10) (po_some pe_int) (po_some (pe_op op_add (pe_callB call_len_seq rfl T.z_len PySem.boot_len (pa_cons (pv 8) pa_nil)) pe_int))) (pa_cons (pe_slice sl_tupS (pv 10) (po_some (pe_op op_add (pe_callB call_len_seq rfl T.z_len PySem.boot_len (pa_cons (pv 8) pa_nil)) pe_int)) po_none) pa_nil)) rfl)
          (pss_cons (ps_if (PW.pt (pw_or (pt_cmpR (op_neD hr.units) (C8.pe_c c_law_rested hr (by omega) rfl (pa_cons (pv 11) pa_nil)) (pv 12) (nomark _)) (pw_or1 (pt_cmpR op_ne (C8.pe_c c_many_steps hr (by omega) rfl (pa_cons (C8.pe_mk c_Program hr (by omega) rfl (pa_cons (pv 11) pa_nil)) pa_nil)) (C8.pe_c c_many_steps hr (by omega) rfl (pa_cons (C8.pe_mk c_Program hr (by omega) rfl (pa_cons (pv 8) pa_nil)) pa_nil)) (nomark _)))))
            (pss_one (ps_ret pe_bl))
            pss_nil)
          (pss_one (ps_if (PW.pt (pw_or (pt_not (pt_val (C8.pe_c c_law_is_number hr (by omega) rfl (pa_cons (C8.pe_c c_many_steps hr (by omega) rfl (pa_cons (C8.pe_mk c_Program hr (by omega) rfl (pa_cons (pv 11) pa_nil)) pa_nil)) pa_nil)))) (pw_or1 (pt_not (pt_val (C8.pe_c c_law_is_words hr (by omega) rfl (pa_cons (C8.pe_c c_rest hr (by omega) rfl (pa_cons (C8.pe_mk c_Program hr (by omega) rfl (pa_cons (pv 12) pa_nil)) pa_nil)) (pa_cons (pv 12) pa_nil))))))))
            (pss_one (ps_ret pe_bl))
            pss_nil))))))))))))))))))
      (pss_one (ps_ret pe_bl)))), ?_⟩
    refine ⟨_, rfl, a, ns, rfl, hS, hn, fun z H1 s1 p1 => ?_⟩
    refine ⟨_, rfl, by decide, by decide, ?_⟩
    refine for_range (lo := 0) (n := 2) (fun i σ H' => ∃ (o2 o3 o4 o5 o6 o7 o8 o9 oa ob oc : Option V), σ = [some (.ref a), some (.ref z.p), o2, o3, o4, o5, o6, o7, o8, o9, oa, ob, oc] ∧ PotAt H' z) ⟨none, none, none, none, none, none, none, none, none, none, none, rfl, p1⟩ (fun i σ H2 hi pv => ?_) (fun σ H2 pv => ?_)
    · obtain ⟨o2, o3, o4, o5, o6, o7, o8, o9, oa, ob, oc, rfl, p2⟩ := pv
      -- words
      refine ⟨_, rfl, szl (by show 3 ≤ 100000; decide), fun np nnp => ?_⟩
      have sn := same_new nnp (.tup [.str ("near" : Str), .str ("open" : Str), .str ("pp" : Str)])
      have wn : SqT K (upd H2 np (.tup [.str ("near" : Str), .str ("open" : Str), .str ("pp" : Str)])) np (N1.map sV) := .inl (.inl (by rw [upd_same, lit_near, lit_open, lit_pp]; rfl))
      refine ⟨_, rfl, z, 3, rfl, by decide, by decide, p2.same sn, fun r1 H3 hr1 b3 p3 => ⟨_, _, rfl, rfl, _, rfl, np, _, rfl, b3.tup (p2.same sn) wn, fun nq H4 s4 w4 => ?_⟩⟩
      have e1 : (1 : Int) + ((r1 : Nat) : Int) = ((1 + r1 : Nat) : Int) := by omega
      rw [e1, cut_to (by show 1 + r1 ≤ 3; omega), ← List.map_take] at w4
      refine ⟨z, nq, N1.take (1 + r1), 109, by rw [lit_m]; rfl, p3.same s4, w4, ?_, n1_ok.take _, fun t tw H5 ht b5 p5 w5 zw5 => ?_⟩
      · exact Nat.le_trans (List.length_take_le' _ _) (by decide)
      -- other
      refine ⟨_, rfl, szl (by show 2 ≤ 100000; decide), fun np2 nnp2 => ?_⟩
      have sn2 := same_new nnp2 (.tup [.str ("far" : Str), .str ("shut" : Str)])
      have wn2 : SqT K (upd H5 np2 (.tup [.str ("far" : Str), .str ("shut" : Str)])) np2 (N2.map sV) := .inl (.inl (by rw [upd_same, lit_far, lit_shut]; rfl))
      refine ⟨_, rfl, z, 3, rfl, by decide, by decide, p5.same sn2, fun r2 H6 hr2 b6 p6 => ⟨_, rfl, np2, _, rfl, b6.tup (p5.same sn2) wn2, fun nq2 H7 s7 w7 => ?_⟩⟩
      rw [cut_to (by show r2 ≤ 2; omega), ← List.map_take] at w7
      refine ⟨z, nq2, N2.take r2, 119, by rw [lit_w]; rfl, p6.same s7, w7, ?_, n2_ok.take _, fun o ow H8 ho b8 p8 w8 _ => ?_⟩
      · exact Nat.le_trans (List.length_take_le' _ _) (by decide)
      have wt8 : Wds K H8 tw t := b8.tup (p6.same s7) ((b6.tup (p5.same sn2) (sn2.tupd w5) : SqT K H6 tw _) |> s7.tupd)
      have zw8 : Zd H8 tw := Zd.but (((zw5.same sn2).but b6 (p5.same sn2)).same s7) b8 (p6.same s7)
      have hB := both_ok ht ho
      have tz := ht.sz
      have oz := ho.sz
      -- parts
      refine ⟨_, rfl, _, rfl, z, tw, t, rfl, p8, ht.pg, by omega, wt8, fun H9 b9 p9 => ⟨_, rfl, iteF ⟨_, rfl, _, rfl, z, ow, o, rfl, p9, ho.pg, by omega, b9.tup p8 w8, fun Ha ba pa => ⟨_, rfl, iteF ?_⟩⟩⟩⟩
      have wta : Wds K Ha tw t := ba.tup p9 (b9.tup p8 wt8)
      have zwa : Zd Ha tw := (zw8.but b9 p8).but ba p9
      have woa : Wds K Ha ow o := ba.tup p9 (b9.tup p8 w8)
      have pgB0 := at_name ht.pg hB.x
      obtain ⟨bp, bq, ebw, eb1, eb2, ebs⟩ := pgB0
      obtain ⟨pgB, ebB, szB⟩ := ebs o ho.pg hB.g
      obtain ⟨dp, dq, edw, ed1, ed2, eds⟩ := at_name ht.pg.nf hB.rx
      obtain ⟨pgD, edD, szD⟩ := eds (nf o) ho.pg.nf hB.rg
      have nt := nf_sz ht.pg
      have no := nf_sz ho.pg
      have txt : ∀ {ws : List Wd}, ws.map eV = (ws.map enc).map V.str := fun {ws} => (List.map_map (f := enc) (g := V.str) (l := ws)).symm
      -- at
      refine ⟨_, rfl, ⟨tw, _, rfl, wta, zwa⟩, tw, t.ws.map enc, SX.S near, bp.length, rfl, by rw [lit_near], by rw [← txt]; exact wta, eb1, eb2, ?_⟩
      -- last, inner
      refine ⟨_, rfl, tw, t, rfl, ht.pg, by omega, wta, fun lw Hb sb wb zb => ?_⟩
      have zlb := zb zwa
      refine ⟨_, rfl, ow, o, rfl, ho.pg, by omega, woa.same sb, fun iw Hc sc wc _ => ?_⟩
      have wtc := wta.same (sb.trans sc)
      have woc := woa.same (sb.trans sc)
      have wlc := wb.same sc
      have zlc := zlb.same sc
      have pc := pa.same (sb.trans sc)
      have hin : inV (V.str (SX.S near)) ((nf t).ws.map eV) = true := List.any_eq_true.mpr ⟨eV (.u near), List.mem_map.mpr ⟨.u near, Tm.mem_occ.mp hB.rx, rfl⟩, eqV_self near⟩
      have hflat : ((nf t).ws.map eV).all flatV = true := List.all_eq_true.mpr fun v hv => by
        obtain ⟨x, _, rfl⟩ := List.mem_map.mp hv
        rfl
      refine ⟨_, rfl, rfl, false, rfl, iteF ⟨_, rfl, rfl, false, rfl, iteF ⟨_, rfl, lw, _, rfl, .inr wlc, rfl, hflat, false, by rw [lit_near, hin]; rfl, iteF ?_⟩⟩⟩
      have hwl := Tm.ws_len t
      have hol := Tm.ws_len o
      have hbl : bp.length + (1 + bq.length) = t.sz := by
        rw [← hwl, ebw, List.length_append, List.length_cons]
        omega
      have cb1 : (t.ws.map eV).take bp.length = bp.map eV := by rw [ebw, List.map_append, List.take_left' (List.length_map _)]
      have cb2 : (t.ws.map eV).drop (bp.length + 1) = bq.map eV := by
        have : t.ws = (bp ++ [Tk.u near]) ++ bq := by rw [ebw]; simp
        rw [this, List.map_append, List.drop_left' (by simp only [List.length_map, List.length_append, List.length_cons, List.length_nil])]
      have hL : (t.ws.map eV).length = t.sz := by rw [List.length_map, hwl]
      -- both
      refine ⟨_, rfl, _, rfl, _, rfl, tw, _, rfl, wtc, fun x1 I1 t1 v1 => ?_⟩
      rw [cut_to (by omega), cb1] at v1
      refine ⟨_, rfl, x1, ow, _, _, rfl, rfl, v1, woc.same t1, szl (by simp only [List.length_map, hol]; omega), fun x2 I2 t2 v2 => ?_⟩
      refine ⟨_, rfl, _, rfl, _, _, rfl, rfl, _, rfl, tw, _, rfl, wtc.same (t1.trans t2), fun x3 I3 t3 v3 => ?_⟩
      rw [show ((bp.length : Nat) : Int) + 1 = ((bp.length + 1 : Nat) : Int) by omega, cut_from (by omega), cb2] at v3
      refine ⟨x2, x3, _, _, rfl, rfl, t3.tupd v2, v3, szl (by simp only [List.length_append, List.length_map, hol]; omega), fun bw I4 t4 v4 => ?_⟩
      have t14 := t1.trans (t2.trans (t3.trans t4))
      have wB : Wds K I4 bw (t.sub near o) := by
        show SqT K I4 bw ((t.sub near o).ws.map eV)
        rw [ebB, List.map_append, List.map_append, ← List.append_assoc]
        exact v4
      -- at
      have wl4 := wlc.same t14
      refine ⟨_, rfl, ⟨lw, _, rfl, wl4, zlc.same t14⟩, lw, (nf t).ws.map enc, SX.S near, dp.length, rfl, by rw [lit_near], by rw [← txt]; exact wl4, ed1, ed2, ?_⟩
      have hnl := Tm.ws_len (nf t)
      have hnol := Tm.ws_len (nf o)
      have hdl : dp.length + (1 + dq.length) = (nf t).sz := by
        rw [← hnl, edw, List.length_append, List.length_cons]
        omega
      have cd1 : ((nf t).ws.map eV).take dp.length = dp.map eV := by rw [edw, List.map_append, List.take_left' (List.length_map _)]
      have cd2 : ((nf t).ws.map eV).drop (dp.length + 1) = dq.map eV := by
        have : (nf t).ws = (dp ++ [Tk.u near]) ++ dq := by rw [edw]; simp
        rw [this, List.map_append, List.drop_left' (by simp only [List.length_map, List.length_append, List.length_cons, List.length_nil])]
      have hL2 : ((nf t).ws.map eV).length = (nf t).sz := by rw [List.length_map, hnl]
      -- due
      have wi4 := wc.same t14
      refine ⟨_, rfl, _, rfl, _, rfl, lw, _, rfl, wl4, fun y1 J1 u1 v1 => ?_⟩
      rw [cut_to (by omega), cd1] at v1
      refine ⟨_, rfl, y1, iw, _, _, rfl, rfl, v1, wi4.same u1, szl (by simp only [List.length_map, hnol]; omega), fun y2 J2 u2 v2 => ?_⟩
      refine ⟨_, rfl, _, rfl, _, _, rfl, rfl, _, rfl, lw, _, rfl, wl4.same (u1.trans u2), fun y3 J3 u3 v3 => ?_⟩
      rw [show ((dp.length : Nat) : Int) + 1 = ((dp.length + 1 : Nat) : Int) by omega, cut_from (by omega), cd2] at v3
      refine ⟨y2, y3, _, _, rfl, rfl, u3.tupd v2, v3, szl (by simp only [List.length_append, List.length_map, hnol]; omega), fun dw0 J4 u4 v4 => ?_⟩
      have u14 := u1.trans (u2.trans (u3.trans u4))
      have wD : Wds K J4 dw0 ((nf t).sub near (nf o)) := by
        show SqT K J4 dw0 (((nf t).sub near (nf o)).ws.map eV)
        rw [edD, List.map_append, List.map_append, ← List.append_assoc]
        exact v4
      refine ⟨dw0, _, rfl, pgD, by omega, wD, fun dw J5 u5 wdue _ => ?_⟩
      rw [hB.e] at wdue
      have u15 := u14.trans u5
      have tu := t14.trans u15
      have pgN : Pg (nf (t.sub near o)) := pgB.nf
      have szN := nf_sz pgB
      have okN : ∀ k ∈ (nf (t.sub near o)).ws, OkW k := fun k hk => pgN.wd hk
      -- if
      refine ⟨_, rfl, rfl, false, rfl, iteF ?_⟩
      refine ⟨_, rfl, bw, _, rfl, pgB, by omega, wB.same u15, fun rb J6 u6 wrb _ => ⟨_, rfl, _, _, dW_of wrb, dW_of (wdue.same u6), dW_shaped okN, dW_shaped okN, _, rfl, ?_⟩⟩
      rw [dW_refl okN]
      refine iteF ?_
      have zt := ht.sz
      have sBz : (t.sub near o).sz ≤ 80 := by omega
      have lz : (Tm.T.lam near t).sz = t.sz + 1 := rfl
      have hwlam : ∀ {G : Hp} {a1 : Addr}, SqT K G a1 ([eV (.t near)] ++ t.ws.map eV) → Wds K G a1 (.lam near t) := fun h => h
      have wt6 := wtc.same (tu.trans u6)
      have wl6 := wlc.same (tu.trans u6)
      -- a take ahead
      refine ⟨szl (by show 1 ≤ 100000; decide), fun tp ntp => ?_⟩
      rw [lit_slnear_v]
      have g0 := same_new ntp (.tup [eV (.t near)])
      have gt : SqT K (upd J6 tp (.tup [eV (.t near)])) tp [eV (.t near)] := .inl (.inl upd_same)
      refine ⟨_, rfl, tp, tw, _, _, rfl, rfl, gt, wt6.same g0, szl (by rw [hL]; show 1 + t.sz ≤ 100000; omega), fun a1 G1 g1 w1 => ?_⟩
      refine ⟨a1, .lam near t, rfl, hB.l, by omega, hwlam w1, fun ra G2 g2 wra _ => ?_⟩
      refine ⟨szl (by show 1 ≤ 100000; decide), fun tq ntq => ?_⟩
      have g3 := same_new ntq (.tup [eV (.t near)])
      have gq : SqT K (upd G2 tq (.tup [eV (.t near)])) tq [eV (.t near)] := .inl (.inl upd_same)
      have g03 := g0.trans (g1.trans (g2.trans g3))
      refine ⟨_, rfl, tq, lw, _, _, rfl, rfl, gq, wl6.same g03, szl (by rw [hL2]; show 1 + (nf t).sz ≤ 100000; omega), fun a2 G4 g4 w2 => ?_⟩
      have wra4 : SqT K G4 ra ((Tm.T.lam near (nf t)).ws.map eV) := by
        have h := (wra.same g3).same g4
        rw [Tm.nf_lam hB.l.g] at h
        exact h
      have okL : ∀ k ∈ (Tm.T.lam near (nf t)).ws, OkW k := fun k hk => hB.l.nf.wd (by rw [Tm.nf_lam hB.l.g]; exact hk)
      have w2' : SqT K G4 a2 ((Tm.T.lam near (nf t)).ws.map eV) := w2
      refine ⟨_, _, dW_of wra4, dW_of w2', dW_shaped okL, dW_shaped okL, _, rfl, ?_⟩
      rw [dW_refl okL]
      refine iteF ?_
      have g04 := (tu.trans u6).trans (g03.trans g4)
      have wt4 := wtc.same g04
      -- many_steps
      refine ⟨szl (by show 1 ≤ 100000; decide), fun tp2 ntp2 => ?_⟩
      have h0 := same_new ntp2 (.tup [eV (.t near)])
      have ht0 : SqT K (upd G4 tp2 (.tup [eV (.t near)])) tp2 [eV (.t near)] := .inl (.inl upd_same)
      refine ⟨_, rfl, tp2, tw, _, _, rfl, rfl, ht0, wt4.same h0, szl (by rw [hL]; show 1 + t.sz ≤ 100000; omega), fun a3 K1 h1 w3 => ?_⟩
      have wl3 := hwlam w3
      refine fun x dx nx ndx ne => ⟨x, a3, dx, .lam near t, rfl, upd_same, hB.l, by omega, wl3.same ((same_new ndx _).newd (by rw [upd_ne ne.symm]; exact nx)), fun K2 K3 h2 e3 => ⟨rfl, ?_⟩⟩
      obtain ⟨h3, hx3⟩ := made_prog (CR := CR) nx ndx ne wl3 h2 e3
      refine ⟨x, .lam near t, rfl, hB.l, by omega, hx3, fun K4 h4 => ?_⟩
      have wt5 := wt4.same (h0.trans (h1.trans (h3.trans h4)))
      refine ⟨_, rfl, fun x2 dx2 nx2 ndx2 ne2 => ⟨x2, tw, dx2, t, rfl, upd_same, ht.pg, by omega, wt5.same ((same_new ndx2 _).newd (by rw [upd_ne ne2.symm]; exact nx2)), fun K5 K6 h5 e6 => ⟨rfl, ?_⟩⟩⟩
      obtain ⟨h6, hx6⟩ := made_prog (CR := CR) nx2 ndx2 ne2 wt5 h5 e6
      refine ⟨x2, t, rfl, ht.pg, by omega, hx6, fun K7 h7 => ⟨rfl, false, neI (by rw [Tm.nf_lam hB.l.g]; rfl), iteF ?_⟩⟩
      have hh := (h0.trans (h1.trans (h3.trans h4))).trans (h6.trans h7)
      have gAll := g04.trans hh
      have wB7 := wB.same (u15.trans (u6.trans ((g03.trans g4).trans hh)))
      have wN7 := wdue.same (u6.trans ((g03.trans g4).trans hh))
      have p7 := pc.same gAll
      have hBl := Tm.ws_len (t.sub near o)
      have hNl := Tm.ws_len (nf (t.sub near o))
      have hLB : ((t.sub near o).ws.map eV).length = (t.sub near o).sz := by rw [List.length_map, hBl]
      have okB : ∀ k ∈ (t.sub near o).ws, OkW k := fun k hk => pgB.wd hk
      -- named
      refine ⟨_, rfl, szl (by show 1 ≤ 100000; decide), fun tq2 ntq2 => ?_⟩
      rw [lit_at_v]
      have m0 := same_new ntq2 (.tup [eV .g])
      have mt0 : SqT K (upd K7 tq2 (.tup [eV .g])) tq2 (([Tk.g] : List Wd).map eV) := .inl (.inl upd_same)
      refine ⟨_, rfl, tq2, bw, _, _, rfl, rfl, mt0, wB7.same m0, szl (by simp only [List.length_map, List.length_cons, List.length_nil, hBl]; omega), fun a4 M1 m1 w4' => ?_⟩
      refine ⟨_, rfl, a4, dw, _, _, rfl, rfl, w4', wN7.same (m0.trans m1), szl (by simp only [List.length_append, List.length_map, List.length_cons, List.length_nil, hBl, hNl]; omega), fun a5 M2 m2 w5' => ?_⟩
      have m02 := m0.trans (m1.trans m2)
      have wsA : SqT K M2 a5 ((([Tk.g] ++ (t.sub near o).ws) ++ (nf (t.sub near o)).ws).map eV) := by
        rw [List.map_append, List.map_append]
        exact w5'
      refine ⟨z, a5, ([Tk.g] ++ (t.sub near o).ws) ++ (nf (t.sub near o)).ws, rfl, p7.same m02, wsA, by simp only [List.length_append, List.length_cons, List.length_nil, hBl, hNl]; omega, fun k hk => ?_, fun fn nw M3 fok finj b3' p8' wnw => ?_⟩
      · rcases List.mem_append.mp hk with h | h
        · rcases List.mem_append.mp h with h | h
          · rw [List.mem_singleton.mp h]
            trivial
          · exact okB k h
        · exact okN k h
      have inB : ∀ x ∈ (t.sub near o).occ, nmIn (([Tk.g] ++ (t.sub near o).ws) ++ (nf (t.sub near o)).ws) x := fun x hx => nmIn_ws (fun k hk => List.mem_append_left _ (List.mem_append_right _ hk)) hx
      have injB : Tm.InjOn fn (t.sub near o).occ := fun x hx y hy e => finj x y (inB x hx) (inB y hy) e
      have enf : nf ((t.sub near o).ren fn) = (nf (t.sub near o)).ren fn := Tm.nf_ren pgB.g injB
      have pgFB : Pg ((t.sub near o).ren fn) := ⟨Tm.ren_good pgB.g injB, fun y hy => by
        rw [Tm.ren_occ] at hy
        obtain ⟨x, hx, rfl⟩ := List.mem_map.mp hy
        exact fok x (inB x hx)⟩
      have pgFN : Pg ((nf (t.sub near o)).ren fn) := by
        have h := pgFB.nf
        rw [enf] at h
        exact h
      have enn : nf ((nf (t.sub near o)).ren fn) = (nf (t.sub near o)).ren fn := by
        rw [← enf]
        exact Tm.nf_normal pgFB.nf.g (Tm.nf_rest pgFB.g).nm
      have zFB : ((t.sub near o).ren fn).sz = (t.sub near o).sz := Tm.ren_sz _
      have zFN : ((nf (t.sub near o)).ren fn).sz = (nf (t.sub near o)).sz := Tm.ren_sz _
      have lFB := Tm.ws_len ((t.sub near o).ren fn)
      have lFN := Tm.ws_len ((nf (t.sub near o)).ren fn)
      have wnw' : SqT K M3 nw ((Tk.g :: (((t.sub near o).ren fn).ws ++ ((nf (t.sub near o)).ren fn).ws)).map eV) := by
        rw [Tm.ren_ws, Tm.ren_ws]
        rw [show (Tk.g :: ((t.sub near o).ws.map (Tk.ren fn) ++ (nf (t.sub near o)).ws.map (Tk.ren fn))) = (([Tk.g] ++ (t.sub near o).ws) ++ (nf (t.sub near o)).ws).map (Tk.ren fn) from by rw [List.map_append, List.map_append]; rfl]
        exact wnw
      have wB8 : Wds K M3 bw (t.sub near o) := b3'.tup (p7.same m02) (m02.tupd wB7)
      have lnw : ((Tk.g :: (((t.sub near o).ren fn).ws ++ ((nf (t.sub near o)).ren fn).ws)).map eV).length = 1 + (t.sub near o).sz + (nf (t.sub near o)).sz := by
        simp only [List.length_map, List.length_cons, List.length_append, lFB, lFN, zFB, zFN]
        omega
      have eI : (((((t.sub near o).ws.map eV).length : Nat) : Int) + 1) = (((t.sub near o).sz + 1 : Nat) : Int) := by
        rw [hLB]
        omega
      -- first, then
      refine ⟨_, rfl, _, rfl, _, rfl, bw, _, rfl, .inr wB8, _, _, rfl, rfl, _, rfl, nw, _, rfl, wnw', fun f1 M4 m4 v1 => ?_⟩
      refine ⟨_, rfl, _, rfl, bw, _, rfl, .inr (wB8.same m4), _, _, rfl, rfl, _, rfl, nw, _, rfl, m4.tupd wnw', fun f2 M5 m5 v2 => ⟨_, _, rfl, ?_⟩⟩
      rw [eI, show (1 : Int) = ((1 : Nat) : Int) from rfl, cut_mid (by omega) (by omega)] at v1
      rw [eI, cut_from (by omega)] at v2
      have hA : (((t.sub near o).ren fn).ws.map eV).length = (t.sub near o).sz := by rw [List.length_map, lFB, zFB]
      have v1' : Wds K M4 f1 ((t.sub near o).ren fn) := by
        rw [show (Tk.g :: (((t.sub near o).ren fn).ws ++ ((nf (t.sub near o)).ren fn).ws)).map eV = [eV .g] ++ (((t.sub near o).ren fn).ws.map eV ++ ((nf (t.sub near o)).ren fn).ws.map eV) from by rw [List.map_cons, List.map_append]; rfl, List.drop_left' (l₁ := [eV .g]) (show [eV Tk.g].length = 1 from rfl), Nat.add_sub_cancel, List.take_left' hA] at v1
        exact v1
      have v2' : Wds K M5 f2 ((nf (t.sub near o)).ren fn) := by
        rw [show (Tk.g :: (((t.sub near o).ren fn).ws ++ ((nf (t.sub near o)).ren fn).ws)).map eV = ([eV .g] ++ ((t.sub near o).ren fn).ws.map eV) ++ ((nf (t.sub near o)).ren fn).ws.map eV from by rw [List.map_cons, List.map_append]; rfl, List.drop_left' (by rw [List.length_append, hA]; show 1 + _ = _; omega)] at v2
        exact v2
      have v15 := v1'.same m5
      have wB9 := (wB8.same m4).same m5
      have p9 := p8'.same (m4.trans m5)
      have okFN : ∀ k ∈ ((nf (t.sub near o)).ren fn).ws, OkW k := fun k hk => pgFN.wd hk
      -- rested(first) != then
      refine ⟨_, rfl, f1, (t.sub near o).ren fn, rfl, pgFB, by omega, v15, fun rf M6 m6 wrf _ => ⟨_, rfl, _, _, dW_of (by
        have h := wrf
        unfold Wds at h
        rw [enf] at h
        exact h), dW_of (v2'.same m6), dW_shaped okFN, dW_shaped okFN, _, rfl, ?_⟩⟩
      rw [dW_refl okFN]
      refine iteF ?_
      have v16 := v15.same m6
      -- many_steps
      refine ⟨_, rfl, fun x dx nx ndx ne => ⟨x, f1, dx, (t.sub near o).ren fn, rfl, upd_same, pgFB, by omega, v16.same ((same_new ndx _).newd (by rw [upd_ne ne.symm]; exact nx)), fun K2 K3 h2 e3 => ⟨rfl, ?_⟩⟩⟩
      obtain ⟨h3, hx3⟩ := made_prog (CR := CR) nx ndx ne v16 h2 e3
      refine ⟨x, (t.sub near o).ren fn, rfl, pgFB, by omega, hx3, fun K4 h4 => ?_⟩
      have m64 := m6.trans (h3.trans h4)
      have wBa := wB9.same m64
      refine ⟨_, rfl, fun x2 dx2 nx2 ndx2 ne2 => ⟨x2, bw, dx2, t.sub near o, rfl, upd_same, pgB, by omega, wBa.same ((same_new ndx2 _).newd (by rw [upd_ne ne2.symm]; exact nx2)), fun K5 K6 h5 e6 => ⟨rfl, ?_⟩⟩⟩
      obtain ⟨h6, hx6⟩ := made_prog (CR := CR) nx2 ndx2 ne2 wBa h5 e6
      refine ⟨x2, t.sub near o, rfl, pgB, by omega, hx6, fun K7 h7 => ⟨rfl, false, neI (by rw [enf, Tm.ren_gv, Tm.ren_gv]), iteF ?_⟩⟩
      have m67 := m64.trans (h6.trans h7)
      have v17 := v15.same m67
      have v27 := v2'.same m67
      have p17 := p9.same m67
      -- is_number
      refine ⟨_, rfl, fun x3 dx3 nx3 ndx3 ne3 => ⟨x3, f1, dx3, (t.sub near o).ren fn, rfl, upd_same, pgFB, by omega, v17.same ((same_new ndx3 _).newd (by rw [upd_ne ne3.symm]; exact nx3)), fun L2 L3 k2 e9 => ⟨rfl, ?_⟩⟩⟩
      obtain ⟨k3, hy3⟩ := made_prog (CR := CR) nx3 ndx3 ne3 v17 k2 e9
      refine ⟨x3, (t.sub near o).ren fn, rfl, pgFB, by omega, hy3, fun L4 k4 => ⟨_, rfl, _, rfl, iteF ?_⟩⟩
      have k34 := k3.trans k4
      have v28 := v27.same k34
      -- is_words
      refine ⟨_, rfl, fun x4 dx4 nx4 ndx4 ne4 => ⟨x4, f2, dx4, (nf (t.sub near o)).ren fn, rfl, upd_same, pgFN, by omega, v28.same ((same_new ndx4 _).newd (by rw [upd_ne ne4.symm]; exact nx4)), fun L5 L6 k5 e10 => ⟨rfl, ?_⟩⟩⟩
      obtain ⟨k6, hy6⟩ := made_prog (CR := CR) nx4 ndx4 ne4 v28 k5 e10
      refine ⟨x4, (nf (t.sub near o)).ren fn, rfl, pgFN, by omega, hy6, fun yy dyy bb L7 k7 hyy hbb _ => ⟨_, rfl, yy, f2, dyy, bb, ((nf (t.sub near o)).ren fn).ws, rfl, okFN, hyy, (by
        have h := hbb
        unfold Wds at h
        rw [enn] at h
        exact h), (v28.same k6).same k7, _, rfl, iteF ?_⟩⟩
      exact ⟨_, _, _, _, _, _, _, _, _, _, _, rfl, (p17.same k34).same (k6.trans k7)⟩
    · obtain ⟨o2, o3, o4, o5, o6, o7, o8, o9, oa, ob, oc, rfl, p2⟩ := pv
      exact q H2
end Ok
set_option maxRecDepth 100000
set_option maxHeartbeats 4000000
/-! All promises together; what the top must have written. -/
namespace Ok
open PySem PySem.Spec PyProof.Rows L2 HT
variable {P : Program} {w : World} {K : PySem.W.Frag} {mg : Str → Option Value} {base : Heap}
theorem fin {CP CR f : Addr} {fd : FuncData} (D_is_give : Dn K mg "is_give" st_is_give ["word"])
    (D_is_take : Dn K mg "is_take" st_is_take ["word"])
    (D_name_of : Dn K mg "name_of" st_name_of ["word"])
    (D_asked_by : Dn K mg "asked_by" st_asked_by ["word"])
    (D_is_name : Dn K mg "is_name" st_is_name ["thing"])
    (D_is_word : Dn K mg "is_word" st_is_word ["thing"])
    (D_wrong_end : Dn K mg "wrong_end" st_wrong_end ["words"])
    (D_wrong_second : Dn K mg "wrong_second" st_wrong_second ["words"])
    (D_raw_ends : Dn K mg "raw_ends" st_raw_ends ["words"])
    (D_uses : Dn K mg "uses" st_uses ["words"])
    (D_wrong_take : Dn K mg "wrong_take" st_wrong_take ["words"])
    (D_fault_in : Dn K mg "fault_in" st_fault_in ["words"])
    (D_Program : Dm K mg "Program" "Program.__init__" CP st_Program_init ["self", "words"])
    (D_RawProgram : Dm K mg "RawProgram" "RawProgram.__init__" CR st_RawProgram_init ["self", "words"])
    (D_givens : Dn K mg "givens" st_givens ["program"])
    (D_is_step : Dn K mg "is_step" st_is_step ["words", "place"])
    (D_raw_steps : Dn K mg "raw_steps" st_raw_steps ["words"])
    (D_steps : Dn K mg "steps" st_steps ["program"])
    (D_raw_stepped : Dn K mg "raw_stepped" st_raw_stepped ["words", "place"])
    (D_way_to_rest : Dn K mg "way_to_rest" st_way_to_rest ["words"])
    (D_raw_rest : Dn K mg "raw_rest" st_raw_rest ["words"])
    (D_rest : Dn K mg "rest" st_rest ["program"])
    (D_many_steps : Dn K mg "many_steps" st_many_steps ["program"])
    (D_law_draw : Dn K mg "_law_draw" st_law_draw ["_law_pot_here", "_law_many"])
    (D_law_pot : Dn K mg "_law_pot" st_law_pot ["_law_script"])
    (D_law_ends : Dn K mg "_law_ends" st_law_ends ["_law_words_here"])
    (D_law_mixed : Dn K mg "_law_mixed" st_law_mixed ["_law_pot_here", "_law_items"])
    (D_law_letters : Dn K mg "_law_letters" st_law_letters ["_law_number"])
    (D_law_is_number : Dn K mg "_law_is_number" st_law_is_number ["_law_thing"])
    (D_law_is_words : Dn K mg "_law_is_words" st_law_is_words ["_law_thing", "_law_due"])
    (D_law_rested : Dn K mg "_law_rested" st_law_rested ["_law_words_here"])
    (D_law_words : Dn K mg "_law_words" st_law_words ["_law_pot_here", "_law_names", "_law_givens", "_law_used"])
    (D_law_grown : Dn K mg "_law_grown" st_law_grown ["_law_pot_here", "_law_words_here", "_law_many"])
    (D_law_called : Dn K mg "_law_called" st_law_called ["_law_pot_here", "_law_words_here"])
    (D_law_drawn : Dn K mg "_law_drawn" st_law_drawn ["_law_pot_here", "_law_names", "_law_mark"])
    (D_law_parts : Dn K mg "_law_parts" st_law_parts ["_law_pot_here", "_law_words_here"])
    (T : Bt mg) (ct : Ct K mg CP CR) (F : C8.Def K mg "law" st_law f fd) : FnOk P w K mg base C8.CX0 28 f fd ["_law_script"] (spLaw K) := by
  have c_law_pot : C8.Cal P w K mg base 1 "_law_pot" (spPot K) [] := ok_law_pot D_law_pot T
  have c_law_draw : C8.Cal P w K mg base 1 "_law_draw" spDraw [] := ok_law_draw D_law_draw T
  have c_law_letters : C8.Cal P w K mg base 1 "_law_letters" spLetters [] := ok_law_letters D_law_letters T
  have c_law_mixed : C8.Cal P w K mg base 2 "_law_mixed" (spMixed K) [] := ok_law_mixed D_law_mixed T c_law_draw
  have c_law_words : C8.Cal P w K mg base (3 + 23) "_law_words" (spWords K 23) [] := ok_law_words D_law_words T c_law_draw c_law_letters c_law_mixed 23
  have c_law_ends : C8.Cal P w K mg base 1 "_law_ends" (spEnds K) [] := ok_law_ends D_law_ends T
  have c_law_grown : C8.Cal P w K mg base 2 "_law_grown" (spGrown K) [] := ok_law_grown D_law_grown T c_law_ends c_law_draw c_law_letters
  have c_law_drawn : C8.Cal P w K mg base 27 "_law_drawn" (spDrawn K) [] := ok_law_drawn D_law_drawn T c_law_draw c_law_words c_law_grown
  have c_is_give : C8.Cal P w K mg base 1 "is_give" spIsGive [] := ok_is_give D_is_give
  have c_is_take : C8.Cal P w K mg base 1 "is_take" spIsTake [] := ok_is_take D_is_take
  have c_is_step : C8.Cal P w K mg base 2 "is_step" (spIsStep K) [] := ok_is_step D_is_step c_is_give c_is_take
  have c_raw_steps : C8.Cal P w K mg base 3 "raw_steps" (spRawSteps K) [] := ok_raw_steps D_raw_steps T c_is_step
  have c_steps : C8.Cal P w K mg base 4 "steps" (spSteps K CP CR) [] := ok_steps D_steps T ct c_raw_steps
  have c_asked_by : C8.Cal P w K mg base 2 "asked_by" spAsked [] := ok_asked_by D_asked_by c_is_give c_is_take
  have c_raw_ends : C8.Cal P w K mg base 3 "raw_ends" (spEnds K) [] := ok_raw_ends D_raw_ends T c_asked_by
  have c_uses : C8.Cal P w K mg base 2 "uses" (spUses K) [] := ok_uses D_uses T c_is_give c_is_take
  have c_name_of : C8.Cal P w K mg base 2 "name_of" spNameOf [] := ok_name_of D_name_of c_is_take
  have c_raw_stepped : C8.Cal P w K mg base 4 "raw_stepped" (spRawStepped K) [] := ok_raw_stepped D_raw_stepped T c_raw_ends c_uses c_name_of
  have c_way_to_rest : C8.Cal P w K mg base 5 "way_to_rest" (spWay K) [] := ok_way_to_rest D_way_to_rest T c_raw_steps c_raw_stepped
  have c_raw_rest : C8.Cal P w K mg base 6 "raw_rest" (spRawRest K) [] := ok_raw_rest D_raw_rest T c_way_to_rest
  have c_RawProgram : C8.Mak P w K mg base 1 "RawProgram" CR (spInit K CR) [] := ok_RawProgram D_RawProgram T ct
  have c_rest : C8.Cal P w K mg base 7 "rest" (spRest K CP CR) [] := ok_rest D_rest ct c_raw_rest c_RawProgram
  have c_is_name : C8.Cal P w K mg base 1 "is_name" spIsName [] := ok_is_name D_is_name T
  have c_is_word : C8.Cal P w K mg base 2 "is_word" spIsWord [] := ok_is_word D_is_word T c_is_name
  have c_wrong_end : C8.Cal P w K mg base 3 "wrong_end" (spFine K) [] := ok_wrong_end D_wrong_end T c_asked_by
  have c_wrong_second : C8.Cal P w K mg base 2 "wrong_second" (spFine K) [] := ok_wrong_second D_wrong_second T c_is_give
  have c_wrong_take : C8.Cal P w K mg base 4 "wrong_take" (spFine K) [] := ok_wrong_take D_wrong_take T c_raw_ends c_uses c_is_take c_name_of
  have c_fault_in : C8.Cal P w K mg base 5 "fault_in" (spFine K) [] := ok_fault_in D_fault_in T c_is_word c_wrong_end c_wrong_second c_wrong_take
  have c_Program : C8.Mak P w K mg base 6 "Program" CP (spInit K CP) [] := ok_Program D_Program T ct c_fault_in
  have c_law_rested : C8.Cal P w K mg base 8 "_law_rested" (spRested K) [] := ok_law_rested D_law_rested T ct c_rest c_Program
  have c_law_parts : C8.Cal P w K mg base 9 "_law_parts" (spParts K) [] := ok_law_parts D_law_parts T ct c_law_draw c_law_ends c_steps c_law_rested c_Program
  have c_givens : C8.Cal P w K mg base 2 "givens" (spGivens K CP CR) [] := ok_givens D_givens T ct c_is_give
  have c_many_steps : C8.Cal P w K mg base 8 "many_steps" (spMany K CP CR) [] := ok_many_steps D_many_steps c_givens c_rest
  have c_law_called : C8.Cal P w K mg base 2 "_law_called" (spCalled K) [] := ok_law_called D_law_called T c_law_draw
  have c_law_is_number : C8.Cal P w K mg base 1 "_law_is_number" spIsNumber [] := ok_law_is_number D_law_is_number T
  have c_law_is_words : C8.Cal P w K mg base 1 "_law_is_words" (spIsWords K CR) [] := ok_law_is_words D_law_is_words T ct
  exact ok_law F T ct c_law_pot c_law_draw c_law_drawn c_law_parts c_law_rested c_many_steps c_rest c_Program c_law_called c_law_is_number c_law_is_words
abbrev fO (x q : Str) (st : Stmt) (kV dc pm : Value) (an : Option Addr) (cd ct : Value) : FuncData := PySem.W.fnOf x q (C8.fnArgs st) (C8.fnBody st) (C8.fnScope st) .none kV dc pm an cd ct
theorem mk_is_give {h : Heap} (X : K.In h) (G : h.Ns mainGlobals mg) {f : Addr} {od an : Option Addr} {sl : Array (Option Value)} {oc kV dc pm cd ct : Value}
    (a : PySem.W.nsIn K mainGlobals "is_give" = some (some (.ref f))) (l : K.lookup f = some ⟨oc, od, .func (fO "is_give" "is_give" st_is_give kV dc pm an cd ct), sl⟩) (c : PySem.W.codeIn K cd "is_give" = true) (k : PySem.W.keepIn K (.ref f) = true) : Dn K mg "is_give" st_is_give ["word"] :=
  have F : C8.Fun K "is_give" "is_give" st_is_give f (fO "is_give" "is_give" st_is_give kV dc pm an cd ct) := ⟨oc, od, .none, kV, dc, pm, an, cd, ct, sl, rfl, l, c⟩
  ⟨f, _, ⟨F, PySem.W.mg_of X G a, k⟩, F.binds rfl fun _ _ _ _ _ _ us hl => match us, hl with | [_], _ => rfl⟩
theorem mk_is_take {h : Heap} (X : K.In h) (G : h.Ns mainGlobals mg) {f : Addr} {od an : Option Addr} {sl : Array (Option Value)} {oc kV dc pm cd ct : Value}
    (a : PySem.W.nsIn K mainGlobals "is_take" = some (some (.ref f))) (l : K.lookup f = some ⟨oc, od, .func (fO "is_take" "is_take" st_is_take kV dc pm an cd ct), sl⟩) (c : PySem.W.codeIn K cd "is_take" = true) (k : PySem.W.keepIn K (.ref f) = true) : Dn K mg "is_take" st_is_take ["word"] :=
  have F : C8.Fun K "is_take" "is_take" st_is_take f (fO "is_take" "is_take" st_is_take kV dc pm an cd ct) := ⟨oc, od, .none, kV, dc, pm, an, cd, ct, sl, rfl, l, c⟩
  ⟨f, _, ⟨F, PySem.W.mg_of X G a, k⟩, F.binds rfl fun _ _ _ _ _ _ us hl => match us, hl with | [_], _ => rfl⟩
theorem mk_name_of {h : Heap} (X : K.In h) (G : h.Ns mainGlobals mg) {f : Addr} {od an : Option Addr} {sl : Array (Option Value)} {oc kV dc pm cd ct : Value}
    (a : PySem.W.nsIn K mainGlobals "name_of" = some (some (.ref f))) (l : K.lookup f = some ⟨oc, od, .func (fO "name_of" "name_of" st_name_of kV dc pm an cd ct), sl⟩) (c : PySem.W.codeIn K cd "name_of" = true) (k : PySem.W.keepIn K (.ref f) = true) : Dn K mg "name_of" st_name_of ["word"] :=
  have F : C8.Fun K "name_of" "name_of" st_name_of f (fO "name_of" "name_of" st_name_of kV dc pm an cd ct) := ⟨oc, od, .none, kV, dc, pm, an, cd, ct, sl, rfl, l, c⟩
  ⟨f, _, ⟨F, PySem.W.mg_of X G a, k⟩, F.binds rfl fun _ _ _ _ _ _ us hl => match us, hl with | [_], _ => rfl⟩
theorem mk_asked_by {h : Heap} (X : K.In h) (G : h.Ns mainGlobals mg) {f : Addr} {od an : Option Addr} {sl : Array (Option Value)} {oc kV dc pm cd ct : Value}
    (a : PySem.W.nsIn K mainGlobals "asked_by" = some (some (.ref f))) (l : K.lookup f = some ⟨oc, od, .func (fO "asked_by" "asked_by" st_asked_by kV dc pm an cd ct), sl⟩) (c : PySem.W.codeIn K cd "asked_by" = true) (k : PySem.W.keepIn K (.ref f) = true) : Dn K mg "asked_by" st_asked_by ["word"] :=
  have F : C8.Fun K "asked_by" "asked_by" st_asked_by f (fO "asked_by" "asked_by" st_asked_by kV dc pm an cd ct) := ⟨oc, od, .none, kV, dc, pm, an, cd, ct, sl, rfl, l, c⟩
  ⟨f, _, ⟨F, PySem.W.mg_of X G a, k⟩, F.binds rfl fun _ _ _ _ _ _ us hl => match us, hl with | [_], _ => rfl⟩
theorem mk_is_name {h : Heap} (X : K.In h) (G : h.Ns mainGlobals mg) {f : Addr} {od an : Option Addr} {sl : Array (Option Value)} {oc kV dc pm cd ct : Value}
    (a : PySem.W.nsIn K mainGlobals "is_name" = some (some (.ref f))) (l : K.lookup f = some ⟨oc, od, .func (fO "is_name" "is_name" st_is_name kV dc pm an cd ct), sl⟩) (c : PySem.W.codeIn K cd "is_name" = true) (k : PySem.W.keepIn K (.ref f) = true) : Dn K mg "is_name" st_is_name ["thing"] :=
  have F : C8.Fun K "is_name" "is_name" st_is_name f (fO "is_name" "is_name" st_is_name kV dc pm an cd ct) := ⟨oc, od, .none, kV, dc, pm, an, cd, ct, sl, rfl, l, c⟩
  ⟨f, _, ⟨F, PySem.W.mg_of X G a, k⟩, F.binds rfl fun _ _ _ _ _ _ us hl => match us, hl with | [_], _ => rfl⟩
theorem mk_is_word {h : Heap} (X : K.In h) (G : h.Ns mainGlobals mg) {f : Addr} {od an : Option Addr} {sl : Array (Option Value)} {oc kV dc pm cd ct : Value}
    (a : PySem.W.nsIn K mainGlobals "is_word" = some (some (.ref f))) (l : K.lookup f = some ⟨oc, od, .func (fO "is_word" "is_word" st_is_word kV dc pm an cd ct), sl⟩) (c : PySem.W.codeIn K cd "is_word" = true) (k : PySem.W.keepIn K (.ref f) = true) : Dn K mg "is_word" st_is_word ["thing"] :=
  have F : C8.Fun K "is_word" "is_word" st_is_word f (fO "is_word" "is_word" st_is_word kV dc pm an cd ct) := ⟨oc, od, .none, kV, dc, pm, an, cd, ct, sl, rfl, l, c⟩
  ⟨f, _, ⟨F, PySem.W.mg_of X G a, k⟩, F.binds rfl fun _ _ _ _ _ _ us hl => match us, hl with | [_], _ => rfl⟩
theorem mk_wrong_end {h : Heap} (X : K.In h) (G : h.Ns mainGlobals mg) {f : Addr} {od an : Option Addr} {sl : Array (Option Value)} {oc kV dc pm cd ct : Value}
    (a : PySem.W.nsIn K mainGlobals "wrong_end" = some (some (.ref f))) (l : K.lookup f = some ⟨oc, od, .func (fO "wrong_end" "wrong_end" st_wrong_end kV dc pm an cd ct), sl⟩) (c : PySem.W.codeIn K cd "wrong_end" = true) (k : PySem.W.keepIn K (.ref f) = true) : Dn K mg "wrong_end" st_wrong_end ["words"] :=
  have F : C8.Fun K "wrong_end" "wrong_end" st_wrong_end f (fO "wrong_end" "wrong_end" st_wrong_end kV dc pm an cd ct) := ⟨oc, od, .none, kV, dc, pm, an, cd, ct, sl, rfl, l, c⟩
  ⟨f, _, ⟨F, PySem.W.mg_of X G a, k⟩, F.binds rfl fun _ _ _ _ _ _ us hl => match us, hl with | [_], _ => rfl⟩
theorem mk_wrong_second {h : Heap} (X : K.In h) (G : h.Ns mainGlobals mg) {f : Addr} {od an : Option Addr} {sl : Array (Option Value)} {oc kV dc pm cd ct : Value}
    (a : PySem.W.nsIn K mainGlobals "wrong_second" = some (some (.ref f))) (l : K.lookup f = some ⟨oc, od, .func (fO "wrong_second" "wrong_second" st_wrong_second kV dc pm an cd ct), sl⟩) (c : PySem.W.codeIn K cd "wrong_second" = true) (k : PySem.W.keepIn K (.ref f) = true) : Dn K mg "wrong_second" st_wrong_second ["words"] :=
  have F : C8.Fun K "wrong_second" "wrong_second" st_wrong_second f (fO "wrong_second" "wrong_second" st_wrong_second kV dc pm an cd ct) := ⟨oc, od, .none, kV, dc, pm, an, cd, ct, sl, rfl, l, c⟩
  ⟨f, _, ⟨F, PySem.W.mg_of X G a, k⟩, F.binds rfl fun _ _ _ _ _ _ us hl => match us, hl with | [_], _ => rfl⟩
theorem mk_raw_ends {h : Heap} (X : K.In h) (G : h.Ns mainGlobals mg) {f : Addr} {od an : Option Addr} {sl : Array (Option Value)} {oc kV dc pm cd ct : Value}
    (a : PySem.W.nsIn K mainGlobals "raw_ends" = some (some (.ref f))) (l : K.lookup f = some ⟨oc, od, .func (fO "raw_ends" "raw_ends" st_raw_ends kV dc pm an cd ct), sl⟩) (c : PySem.W.codeIn K cd "raw_ends" = true) (k : PySem.W.keepIn K (.ref f) = true) : Dn K mg "raw_ends" st_raw_ends ["words"] :=
  have F : C8.Fun K "raw_ends" "raw_ends" st_raw_ends f (fO "raw_ends" "raw_ends" st_raw_ends kV dc pm an cd ct) := ⟨oc, od, .none, kV, dc, pm, an, cd, ct, sl, rfl, l, c⟩
  ⟨f, _, ⟨F, PySem.W.mg_of X G a, k⟩, F.binds rfl fun _ _ _ _ _ _ us hl => match us, hl with | [_], _ => rfl⟩
theorem mk_uses {h : Heap} (X : K.In h) (G : h.Ns mainGlobals mg) {f : Addr} {od an : Option Addr} {sl : Array (Option Value)} {oc kV dc pm cd ct : Value}
    (a : PySem.W.nsIn K mainGlobals "uses" = some (some (.ref f))) (l : K.lookup f = some ⟨oc, od, .func (fO "uses" "uses" st_uses kV dc pm an cd ct), sl⟩) (c : PySem.W.codeIn K cd "uses" = true) (k : PySem.W.keepIn K (.ref f) = true) : Dn K mg "uses" st_uses ["words"] :=
  have F : C8.Fun K "uses" "uses" st_uses f (fO "uses" "uses" st_uses kV dc pm an cd ct) := ⟨oc, od, .none, kV, dc, pm, an, cd, ct, sl, rfl, l, c⟩
  ⟨f, _, ⟨F, PySem.W.mg_of X G a, k⟩, F.binds rfl fun _ _ _ _ _ _ us hl => match us, hl with | [_], _ => rfl⟩
theorem mk_wrong_take {h : Heap} (X : K.In h) (G : h.Ns mainGlobals mg) {f : Addr} {od an : Option Addr} {sl : Array (Option Value)} {oc kV dc pm cd ct : Value}
    (a : PySem.W.nsIn K mainGlobals "wrong_take" = some (some (.ref f))) (l : K.lookup f = some ⟨oc, od, .func (fO "wrong_take" "wrong_take" st_wrong_take kV dc pm an cd ct), sl⟩) (c : PySem.W.codeIn K cd "wrong_take" = true) (k : PySem.W.keepIn K (.ref f) = true) : Dn K mg "wrong_take" st_wrong_take ["words"] :=
  have F : C8.Fun K "wrong_take" "wrong_take" st_wrong_take f (fO "wrong_take" "wrong_take" st_wrong_take kV dc pm an cd ct) := ⟨oc, od, .none, kV, dc, pm, an, cd, ct, sl, rfl, l, c⟩
  ⟨f, _, ⟨F, PySem.W.mg_of X G a, k⟩, F.binds rfl fun _ _ _ _ _ _ us hl => match us, hl with | [_], _ => rfl⟩
theorem mk_fault_in {h : Heap} (X : K.In h) (G : h.Ns mainGlobals mg) {f : Addr} {od an : Option Addr} {sl : Array (Option Value)} {oc kV dc pm cd ct : Value}
    (a : PySem.W.nsIn K mainGlobals "fault_in" = some (some (.ref f))) (l : K.lookup f = some ⟨oc, od, .func (fO "fault_in" "fault_in" st_fault_in kV dc pm an cd ct), sl⟩) (c : PySem.W.codeIn K cd "fault_in" = true) (k : PySem.W.keepIn K (.ref f) = true) : Dn K mg "fault_in" st_fault_in ["words"] :=
  have F : C8.Fun K "fault_in" "fault_in" st_fault_in f (fO "fault_in" "fault_in" st_fault_in kV dc pm an cd ct) := ⟨oc, od, .none, kV, dc, pm, an, cd, ct, sl, rfl, l, c⟩
  ⟨f, _, ⟨F, PySem.W.mg_of X G a, k⟩, F.binds rfl fun _ _ _ _ _ _ us hl => match us, hl with | [_], _ => rfl⟩
theorem mk_Program {CP : Addr} {h : Heap} (X : K.In h) (G : h.Ns mainGlobals mg) {f : Addr} {od an : Option Addr} {sl : Array (Option Value)} {oc kV dc pm cd ct : Value}
    (g : mg "Program" = some (.ref CP)) (mk : PySem.W.makesIn K CP = true) (kc : PySem.W.keepIn K (.ref CP) = true) (a : PySem.W.findIn K (.ref CP) "__init__" = some (some (.ref f))) (i : PySem.W.isFn K (.ref f) = true)
    (l : K.lookup f = some ⟨oc, od, .func (fO "__init__" "Program.__init__" st_Program_init kV dc pm an cd ct), sl⟩) (c : PySem.W.codeIn K cd "Program.__init__" = true) : Dm K mg "Program" "Program.__init__" CP st_Program_init ["self", "words"] :=
  have F : C8.Fun K "__init__" "Program.__init__" st_Program_init f (fO "__init__" "Program.__init__" st_Program_init kV dc pm an cd ct) := ⟨oc, od, .none, kV, dc, pm, an, cd, ct, sl, rfl, l, c⟩
  ⟨f, _, ⟨mk, a, i, kc⟩, g, F, F.binds rfl fun _ _ _ _ _ _ us hl => match us, hl with | [_, _], _ => rfl⟩
theorem mk_RawProgram {CR : Addr} {h : Heap} (X : K.In h) (G : h.Ns mainGlobals mg) {f : Addr} {od an : Option Addr} {sl : Array (Option Value)} {oc kV dc pm cd ct : Value}
    (g : mg "RawProgram" = some (.ref CR)) (mk : PySem.W.makesIn K CR = true) (kc : PySem.W.keepIn K (.ref CR) = true) (a : PySem.W.findIn K (.ref CR) "__init__" = some (some (.ref f))) (i : PySem.W.isFn K (.ref f) = true)
    (l : K.lookup f = some ⟨oc, od, .func (fO "__init__" "RawProgram.__init__" st_RawProgram_init kV dc pm an cd ct), sl⟩) (c : PySem.W.codeIn K cd "RawProgram.__init__" = true) : Dm K mg "RawProgram" "RawProgram.__init__" CR st_RawProgram_init ["self", "words"] :=
  have F : C8.Fun K "__init__" "RawProgram.__init__" st_RawProgram_init f (fO "__init__" "RawProgram.__init__" st_RawProgram_init kV dc pm an cd ct) := ⟨oc, od, .none, kV, dc, pm, an, cd, ct, sl, rfl, l, c⟩
  ⟨f, _, ⟨mk, a, i, kc⟩, g, F, F.binds rfl fun _ _ _ _ _ _ us hl => match us, hl with | [_, _], _ => rfl⟩
theorem mk_givens {h : Heap} (X : K.In h) (G : h.Ns mainGlobals mg) {f : Addr} {od an : Option Addr} {sl : Array (Option Value)} {oc kV dc pm cd ct : Value}
    (a : PySem.W.nsIn K mainGlobals "givens" = some (some (.ref f))) (l : K.lookup f = some ⟨oc, od, .func (fO "givens" "givens" st_givens kV dc pm an cd ct), sl⟩) (c : PySem.W.codeIn K cd "givens" = true) (k : PySem.W.keepIn K (.ref f) = true) : Dn K mg "givens" st_givens ["program"] :=
  have F : C8.Fun K "givens" "givens" st_givens f (fO "givens" "givens" st_givens kV dc pm an cd ct) := ⟨oc, od, .none, kV, dc, pm, an, cd, ct, sl, rfl, l, c⟩
  ⟨f, _, ⟨F, PySem.W.mg_of X G a, k⟩, F.binds rfl fun _ _ _ _ _ _ us hl => match us, hl with | [_], _ => rfl⟩
theorem mk_is_step {h : Heap} (X : K.In h) (G : h.Ns mainGlobals mg) {f : Addr} {od an : Option Addr} {sl : Array (Option Value)} {oc kV dc pm cd ct : Value}
    (a : PySem.W.nsIn K mainGlobals "is_step" = some (some (.ref f))) (l : K.lookup f = some ⟨oc, od, .func (fO "is_step" "is_step" st_is_step kV dc pm an cd ct), sl⟩) (c : PySem.W.codeIn K cd "is_step" = true) (k : PySem.W.keepIn K (.ref f) = true) : Dn K mg "is_step" st_is_step ["words", "place"] :=
  have F : C8.Fun K "is_step" "is_step" st_is_step f (fO "is_step" "is_step" st_is_step kV dc pm an cd ct) := ⟨oc, od, .none, kV, dc, pm, an, cd, ct, sl, rfl, l, c⟩
  ⟨f, _, ⟨F, PySem.W.mg_of X G a, k⟩, F.binds rfl fun _ _ _ _ _ _ us hl => match us, hl with | [_, _], _ => rfl⟩
theorem mk_raw_steps {h : Heap} (X : K.In h) (G : h.Ns mainGlobals mg) {f : Addr} {od an : Option Addr} {sl : Array (Option Value)} {oc kV dc pm cd ct : Value}
    (a : PySem.W.nsIn K mainGlobals "raw_steps" = some (some (.ref f))) (l : K.lookup f = some ⟨oc, od, .func (fO "raw_steps" "raw_steps" st_raw_steps kV dc pm an cd ct), sl⟩) (c : PySem.W.codeIn K cd "raw_steps" = true) (k : PySem.W.keepIn K (.ref f) = true) : Dn K mg "raw_steps" st_raw_steps ["words"] :=
  have F : C8.Fun K "raw_steps" "raw_steps" st_raw_steps f (fO "raw_steps" "raw_steps" st_raw_steps kV dc pm an cd ct) := ⟨oc, od, .none, kV, dc, pm, an, cd, ct, sl, rfl, l, c⟩
  ⟨f, _, ⟨F, PySem.W.mg_of X G a, k⟩, F.binds rfl fun _ _ _ _ _ _ us hl => match us, hl with | [_], _ => rfl⟩
theorem mk_steps {h : Heap} (X : K.In h) (G : h.Ns mainGlobals mg) {f : Addr} {od an : Option Addr} {sl : Array (Option Value)} {oc kV dc pm cd ct : Value}
    (a : PySem.W.nsIn K mainGlobals "steps" = some (some (.ref f))) (l : K.lookup f = some ⟨oc, od, .func (fO "steps" "steps" st_steps kV dc pm an cd ct), sl⟩) (c : PySem.W.codeIn K cd "steps" = true) (k : PySem.W.keepIn K (.ref f) = true) : Dn K mg "steps" st_steps ["program"] :=
  have F : C8.Fun K "steps" "steps" st_steps f (fO "steps" "steps" st_steps kV dc pm an cd ct) := ⟨oc, od, .none, kV, dc, pm, an, cd, ct, sl, rfl, l, c⟩
  ⟨f, _, ⟨F, PySem.W.mg_of X G a, k⟩, F.binds rfl fun _ _ _ _ _ _ us hl => match us, hl with | [_], _ => rfl⟩
theorem mk_raw_stepped {h : Heap} (X : K.In h) (G : h.Ns mainGlobals mg) {f : Addr} {od an : Option Addr} {sl : Array (Option Value)} {oc kV dc pm cd ct : Value}
    (a : PySem.W.nsIn K mainGlobals "raw_stepped" = some (some (.ref f))) (l : K.lookup f = some ⟨oc, od, .func (fO "raw_stepped" "raw_stepped" st_raw_stepped kV dc pm an cd ct), sl⟩) (c : PySem.W.codeIn K cd "raw_stepped" = true) (k : PySem.W.keepIn K (.ref f) = true) : Dn K mg "raw_stepped" st_raw_stepped ["words", "place"] :=
  have F : C8.Fun K "raw_stepped" "raw_stepped" st_raw_stepped f (fO "raw_stepped" "raw_stepped" st_raw_stepped kV dc pm an cd ct) := ⟨oc, od, .none, kV, dc, pm, an, cd, ct, sl, rfl, l, c⟩
  ⟨f, _, ⟨F, PySem.W.mg_of X G a, k⟩, F.binds rfl fun _ _ _ _ _ _ us hl => match us, hl with | [_, _], _ => rfl⟩
theorem mk_way_to_rest {h : Heap} (X : K.In h) (G : h.Ns mainGlobals mg) {f : Addr} {od an : Option Addr} {sl : Array (Option Value)} {oc kV dc pm cd ct : Value}
    (a : PySem.W.nsIn K mainGlobals "way_to_rest" = some (some (.ref f))) (l : K.lookup f = some ⟨oc, od, .func (fO "way_to_rest" "way_to_rest" st_way_to_rest kV dc pm an cd ct), sl⟩) (c : PySem.W.codeIn K cd "way_to_rest" = true) (k : PySem.W.keepIn K (.ref f) = true) : Dn K mg "way_to_rest" st_way_to_rest ["words"] :=
  have F : C8.Fun K "way_to_rest" "way_to_rest" st_way_to_rest f (fO "way_to_rest" "way_to_rest" st_way_to_rest kV dc pm an cd ct) := ⟨oc, od, .none, kV, dc, pm, an, cd, ct, sl, rfl, l, c⟩
  ⟨f, _, ⟨F, PySem.W.mg_of X G a, k⟩, F.binds rfl fun _ _ _ _ _ _ us hl => match us, hl with | [_], _ => rfl⟩
theorem mk_raw_rest {h : Heap} (X : K.In h) (G : h.Ns mainGlobals mg) {f : Addr} {od an : Option Addr} {sl : Array (Option Value)} {oc kV dc pm cd ct : Value}
    (a : PySem.W.nsIn K mainGlobals "raw_rest" = some (some (.ref f))) (l : K.lookup f = some ⟨oc, od, .func (fO "raw_rest" "raw_rest" st_raw_rest kV dc pm an cd ct), sl⟩) (c : PySem.W.codeIn K cd "raw_rest" = true) (k : PySem.W.keepIn K (.ref f) = true) : Dn K mg "raw_rest" st_raw_rest ["words"] :=
  have F : C8.Fun K "raw_rest" "raw_rest" st_raw_rest f (fO "raw_rest" "raw_rest" st_raw_rest kV dc pm an cd ct) := ⟨oc, od, .none, kV, dc, pm, an, cd, ct, sl, rfl, l, c⟩
  ⟨f, _, ⟨F, PySem.W.mg_of X G a, k⟩, F.binds rfl fun _ _ _ _ _ _ us hl => match us, hl with | [_], _ => rfl⟩
theorem mk_rest {h : Heap} (X : K.In h) (G : h.Ns mainGlobals mg) {f : Addr} {od an : Option Addr} {sl : Array (Option Value)} {oc kV dc pm cd ct : Value}
    (a : PySem.W.nsIn K mainGlobals "rest" = some (some (.ref f))) (l : K.lookup f = some ⟨oc, od, .func (fO "rest" "rest" st_rest kV dc pm an cd ct), sl⟩) (c : PySem.W.codeIn K cd "rest" = true) (k : PySem.W.keepIn K (.ref f) = true) : Dn K mg "rest" st_rest ["program"] :=
  have F : C8.Fun K "rest" "rest" st_rest f (fO "rest" "rest" st_rest kV dc pm an cd ct) := ⟨oc, od, .none, kV, dc, pm, an, cd, ct, sl, rfl, l, c⟩
  ⟨f, _, ⟨F, PySem.W.mg_of X G a, k⟩, F.binds rfl fun _ _ _ _ _ _ us hl => match us, hl with | [_], _ => rfl⟩
theorem mk_many_steps {h : Heap} (X : K.In h) (G : h.Ns mainGlobals mg) {f : Addr} {od an : Option Addr} {sl : Array (Option Value)} {oc kV dc pm cd ct : Value}
    (a : PySem.W.nsIn K mainGlobals "many_steps" = some (some (.ref f))) (l : K.lookup f = some ⟨oc, od, .func (fO "many_steps" "many_steps" st_many_steps kV dc pm an cd ct), sl⟩) (c : PySem.W.codeIn K cd "many_steps" = true) (k : PySem.W.keepIn K (.ref f) = true) : Dn K mg "many_steps" st_many_steps ["program"] :=
  have F : C8.Fun K "many_steps" "many_steps" st_many_steps f (fO "many_steps" "many_steps" st_many_steps kV dc pm an cd ct) := ⟨oc, od, .none, kV, dc, pm, an, cd, ct, sl, rfl, l, c⟩
  ⟨f, _, ⟨F, PySem.W.mg_of X G a, k⟩, F.binds rfl fun _ _ _ _ _ _ us hl => match us, hl with | [_], _ => rfl⟩
theorem mk_law_draw {h : Heap} (X : K.In h) (G : h.Ns mainGlobals mg) {f : Addr} {od an : Option Addr} {sl : Array (Option Value)} {oc kV dc pm cd ct : Value}
    (a : PySem.W.nsIn K mainGlobals "_law_draw" = some (some (.ref f))) (l : K.lookup f = some ⟨oc, od, .func (fO "_law_draw" "_law_draw" st_law_draw kV dc pm an cd ct), sl⟩) (c : PySem.W.codeIn K cd "_law_draw" = true) (k : PySem.W.keepIn K (.ref f) = true) : Dn K mg "_law_draw" st_law_draw ["_law_pot_here", "_law_many"] :=
  have F : C8.Fun K "_law_draw" "_law_draw" st_law_draw f (fO "_law_draw" "_law_draw" st_law_draw kV dc pm an cd ct) := ⟨oc, od, .none, kV, dc, pm, an, cd, ct, sl, rfl, l, c⟩
  ⟨f, _, ⟨F, PySem.W.mg_of X G a, k⟩, F.binds rfl fun _ _ _ _ _ _ us hl => match us, hl with | [_, _], _ => rfl⟩
theorem mk_law_pot {h : Heap} (X : K.In h) (G : h.Ns mainGlobals mg) {f : Addr} {od an : Option Addr} {sl : Array (Option Value)} {oc kV dc pm cd ct : Value}
    (a : PySem.W.nsIn K mainGlobals "_law_pot" = some (some (.ref f))) (l : K.lookup f = some ⟨oc, od, .func (fO "_law_pot" "_law_pot" st_law_pot kV dc pm an cd ct), sl⟩) (c : PySem.W.codeIn K cd "_law_pot" = true) (k : PySem.W.keepIn K (.ref f) = true) : Dn K mg "_law_pot" st_law_pot ["_law_script"] :=
  have F : C8.Fun K "_law_pot" "_law_pot" st_law_pot f (fO "_law_pot" "_law_pot" st_law_pot kV dc pm an cd ct) := ⟨oc, od, .none, kV, dc, pm, an, cd, ct, sl, rfl, l, c⟩
  ⟨f, _, ⟨F, PySem.W.mg_of X G a, k⟩, F.binds rfl fun _ _ _ _ _ _ us hl => match us, hl with | [_], _ => rfl⟩
theorem mk_law_ends {h : Heap} (X : K.In h) (G : h.Ns mainGlobals mg) {f : Addr} {od an : Option Addr} {sl : Array (Option Value)} {oc kV dc pm cd ct : Value}
    (a : PySem.W.nsIn K mainGlobals "_law_ends" = some (some (.ref f))) (l : K.lookup f = some ⟨oc, od, .func (fO "_law_ends" "_law_ends" st_law_ends kV dc pm an cd ct), sl⟩) (c : PySem.W.codeIn K cd "_law_ends" = true) (k : PySem.W.keepIn K (.ref f) = true) : Dn K mg "_law_ends" st_law_ends ["_law_words_here"] :=
  have F : C8.Fun K "_law_ends" "_law_ends" st_law_ends f (fO "_law_ends" "_law_ends" st_law_ends kV dc pm an cd ct) := ⟨oc, od, .none, kV, dc, pm, an, cd, ct, sl, rfl, l, c⟩
  ⟨f, _, ⟨F, PySem.W.mg_of X G a, k⟩, F.binds rfl fun _ _ _ _ _ _ us hl => match us, hl with | [_], _ => rfl⟩
theorem mk_law_mixed {h : Heap} (X : K.In h) (G : h.Ns mainGlobals mg) {f : Addr} {od an : Option Addr} {sl : Array (Option Value)} {oc kV dc pm cd ct : Value}
    (a : PySem.W.nsIn K mainGlobals "_law_mixed" = some (some (.ref f))) (l : K.lookup f = some ⟨oc, od, .func (fO "_law_mixed" "_law_mixed" st_law_mixed kV dc pm an cd ct), sl⟩) (c : PySem.W.codeIn K cd "_law_mixed" = true) (k : PySem.W.keepIn K (.ref f) = true) : Dn K mg "_law_mixed" st_law_mixed ["_law_pot_here", "_law_items"] :=
  have F : C8.Fun K "_law_mixed" "_law_mixed" st_law_mixed f (fO "_law_mixed" "_law_mixed" st_law_mixed kV dc pm an cd ct) := ⟨oc, od, .none, kV, dc, pm, an, cd, ct, sl, rfl, l, c⟩
  ⟨f, _, ⟨F, PySem.W.mg_of X G a, k⟩, F.binds rfl fun _ _ _ _ _ _ us hl => match us, hl with | [_, _], _ => rfl⟩
theorem mk_law_letters {h : Heap} (X : K.In h) (G : h.Ns mainGlobals mg) {f : Addr} {od an : Option Addr} {sl : Array (Option Value)} {oc kV dc pm cd ct : Value}
    (a : PySem.W.nsIn K mainGlobals "_law_letters" = some (some (.ref f))) (l : K.lookup f = some ⟨oc, od, .func (fO "_law_letters" "_law_letters" st_law_letters kV dc pm an cd ct), sl⟩) (c : PySem.W.codeIn K cd "_law_letters" = true) (k : PySem.W.keepIn K (.ref f) = true) : Dn K mg "_law_letters" st_law_letters ["_law_number"] :=
  have F : C8.Fun K "_law_letters" "_law_letters" st_law_letters f (fO "_law_letters" "_law_letters" st_law_letters kV dc pm an cd ct) := ⟨oc, od, .none, kV, dc, pm, an, cd, ct, sl, rfl, l, c⟩
  ⟨f, _, ⟨F, PySem.W.mg_of X G a, k⟩, F.binds rfl fun _ _ _ _ _ _ us hl => match us, hl with | [_], _ => rfl⟩
theorem mk_law_is_number {h : Heap} (X : K.In h) (G : h.Ns mainGlobals mg) {f : Addr} {od an : Option Addr} {sl : Array (Option Value)} {oc kV dc pm cd ct : Value}
    (a : PySem.W.nsIn K mainGlobals "_law_is_number" = some (some (.ref f))) (l : K.lookup f = some ⟨oc, od, .func (fO "_law_is_number" "_law_is_number" st_law_is_number kV dc pm an cd ct), sl⟩) (c : PySem.W.codeIn K cd "_law_is_number" = true) (k : PySem.W.keepIn K (.ref f) = true) : Dn K mg "_law_is_number" st_law_is_number ["_law_thing"] :=
  have F : C8.Fun K "_law_is_number" "_law_is_number" st_law_is_number f (fO "_law_is_number" "_law_is_number" st_law_is_number kV dc pm an cd ct) := ⟨oc, od, .none, kV, dc, pm, an, cd, ct, sl, rfl, l, c⟩
  ⟨f, _, ⟨F, PySem.W.mg_of X G a, k⟩, F.binds rfl fun _ _ _ _ _ _ us hl => match us, hl with | [_], _ => rfl⟩
theorem mk_law_is_words {h : Heap} (X : K.In h) (G : h.Ns mainGlobals mg) {f : Addr} {od an : Option Addr} {sl : Array (Option Value)} {oc kV dc pm cd ct : Value}
    (a : PySem.W.nsIn K mainGlobals "_law_is_words" = some (some (.ref f))) (l : K.lookup f = some ⟨oc, od, .func (fO "_law_is_words" "_law_is_words" st_law_is_words kV dc pm an cd ct), sl⟩) (c : PySem.W.codeIn K cd "_law_is_words" = true) (k : PySem.W.keepIn K (.ref f) = true) : Dn K mg "_law_is_words" st_law_is_words ["_law_thing", "_law_due"] :=
  have F : C8.Fun K "_law_is_words" "_law_is_words" st_law_is_words f (fO "_law_is_words" "_law_is_words" st_law_is_words kV dc pm an cd ct) := ⟨oc, od, .none, kV, dc, pm, an, cd, ct, sl, rfl, l, c⟩
  ⟨f, _, ⟨F, PySem.W.mg_of X G a, k⟩, F.binds rfl fun _ _ _ _ _ _ us hl => match us, hl with | [_, _], _ => rfl⟩
theorem mk_law_rested {h : Heap} (X : K.In h) (G : h.Ns mainGlobals mg) {f : Addr} {od an : Option Addr} {sl : Array (Option Value)} {oc kV dc pm cd ct : Value}
    (a : PySem.W.nsIn K mainGlobals "_law_rested" = some (some (.ref f))) (l : K.lookup f = some ⟨oc, od, .func (fO "_law_rested" "_law_rested" st_law_rested kV dc pm an cd ct), sl⟩) (c : PySem.W.codeIn K cd "_law_rested" = true) (k : PySem.W.keepIn K (.ref f) = true) : Dn K mg "_law_rested" st_law_rested ["_law_words_here"] :=
  have F : C8.Fun K "_law_rested" "_law_rested" st_law_rested f (fO "_law_rested" "_law_rested" st_law_rested kV dc pm an cd ct) := ⟨oc, od, .none, kV, dc, pm, an, cd, ct, sl, rfl, l, c⟩
  ⟨f, _, ⟨F, PySem.W.mg_of X G a, k⟩, F.binds rfl fun _ _ _ _ _ _ us hl => match us, hl with | [_], _ => rfl⟩
theorem mk_law_words {h : Heap} (X : K.In h) (G : h.Ns mainGlobals mg) {f : Addr} {od an : Option Addr} {sl : Array (Option Value)} {oc kV dc pm cd ct : Value}
    (a : PySem.W.nsIn K mainGlobals "_law_words" = some (some (.ref f))) (l : K.lookup f = some ⟨oc, od, .func (fO "_law_words" "_law_words" st_law_words kV dc pm an cd ct), sl⟩) (c : PySem.W.codeIn K cd "_law_words" = true) (k : PySem.W.keepIn K (.ref f) = true) : Dn K mg "_law_words" st_law_words ["_law_pot_here", "_law_names", "_law_givens", "_law_used"] :=
  have F : C8.Fun K "_law_words" "_law_words" st_law_words f (fO "_law_words" "_law_words" st_law_words kV dc pm an cd ct) := ⟨oc, od, .none, kV, dc, pm, an, cd, ct, sl, rfl, l, c⟩
  ⟨f, _, ⟨F, PySem.W.mg_of X G a, k⟩, F.binds rfl fun _ _ _ _ _ _ us hl => match us, hl with | [_, _, _, _], _ => rfl⟩
theorem mk_law_grown {h : Heap} (X : K.In h) (G : h.Ns mainGlobals mg) {f : Addr} {od an : Option Addr} {sl : Array (Option Value)} {oc kV dc pm cd ct : Value}
    (a : PySem.W.nsIn K mainGlobals "_law_grown" = some (some (.ref f))) (l : K.lookup f = some ⟨oc, od, .func (fO "_law_grown" "_law_grown" st_law_grown kV dc pm an cd ct), sl⟩) (c : PySem.W.codeIn K cd "_law_grown" = true) (k : PySem.W.keepIn K (.ref f) = true) : Dn K mg "_law_grown" st_law_grown ["_law_pot_here", "_law_words_here", "_law_many"] :=
  have F : C8.Fun K "_law_grown" "_law_grown" st_law_grown f (fO "_law_grown" "_law_grown" st_law_grown kV dc pm an cd ct) := ⟨oc, od, .none, kV, dc, pm, an, cd, ct, sl, rfl, l, c⟩
  ⟨f, _, ⟨F, PySem.W.mg_of X G a, k⟩, F.binds rfl fun _ _ _ _ _ _ us hl => match us, hl with | [_, _, _], _ => rfl⟩
theorem mk_law_called {h : Heap} (X : K.In h) (G : h.Ns mainGlobals mg) {f : Addr} {od an : Option Addr} {sl : Array (Option Value)} {oc kV dc pm cd ct : Value}
    (a : PySem.W.nsIn K mainGlobals "_law_called" = some (some (.ref f))) (l : K.lookup f = some ⟨oc, od, .func (fO "_law_called" "_law_called" st_law_called kV dc pm an cd ct), sl⟩) (c : PySem.W.codeIn K cd "_law_called" = true) (k : PySem.W.keepIn K (.ref f) = true) : Dn K mg "_law_called" st_law_called ["_law_pot_here", "_law_words_here"] :=
  have F : C8.Fun K "_law_called" "_law_called" st_law_called f (fO "_law_called" "_law_called" st_law_called kV dc pm an cd ct) := ⟨oc, od, .none, kV, dc, pm, an, cd, ct, sl, rfl, l, c⟩
  ⟨f, _, ⟨F, PySem.W.mg_of X G a, k⟩, F.binds rfl fun _ _ _ _ _ _ us hl => match us, hl with | [_, _], _ => rfl⟩
theorem mk_law_drawn {h : Heap} (X : K.In h) (G : h.Ns mainGlobals mg) {f : Addr} {od an : Option Addr} {sl : Array (Option Value)} {oc kV dc pm cd ct : Value}
    (a : PySem.W.nsIn K mainGlobals "_law_drawn" = some (some (.ref f))) (l : K.lookup f = some ⟨oc, od, .func (fO "_law_drawn" "_law_drawn" st_law_drawn kV dc pm an cd ct), sl⟩) (c : PySem.W.codeIn K cd "_law_drawn" = true) (k : PySem.W.keepIn K (.ref f) = true) : Dn K mg "_law_drawn" st_law_drawn ["_law_pot_here", "_law_names", "_law_mark"] :=
  have F : C8.Fun K "_law_drawn" "_law_drawn" st_law_drawn f (fO "_law_drawn" "_law_drawn" st_law_drawn kV dc pm an cd ct) := ⟨oc, od, .none, kV, dc, pm, an, cd, ct, sl, rfl, l, c⟩
  ⟨f, _, ⟨F, PySem.W.mg_of X G a, k⟩, F.binds rfl fun _ _ _ _ _ _ us hl => match us, hl with | [_, _, _], _ => rfl⟩
theorem mk_law_parts {h : Heap} (X : K.In h) (G : h.Ns mainGlobals mg) {f : Addr} {od an : Option Addr} {sl : Array (Option Value)} {oc kV dc pm cd ct : Value}
    (a : PySem.W.nsIn K mainGlobals "_law_parts" = some (some (.ref f))) (l : K.lookup f = some ⟨oc, od, .func (fO "_law_parts" "_law_parts" st_law_parts kV dc pm an cd ct), sl⟩) (c : PySem.W.codeIn K cd "_law_parts" = true) (k : PySem.W.keepIn K (.ref f) = true) : Dn K mg "_law_parts" st_law_parts ["_law_pot_here", "_law_words_here"] :=
  have F : C8.Fun K "_law_parts" "_law_parts" st_law_parts f (fO "_law_parts" "_law_parts" st_law_parts kV dc pm an cd ct) := ⟨oc, od, .none, kV, dc, pm, an, cd, ct, sl, rfl, l, c⟩
  ⟨f, _, ⟨F, PySem.W.mg_of X G a, k⟩, F.binds rfl fun _ _ _ _ _ _ us hl => match us, hl with | [_, _], _ => rfl⟩
theorem mk_law {h : Heap} (X : K.In h) (G : h.Ns mainGlobals mg) {f : Addr} {od an : Option Addr} {sl : Array (Option Value)} {oc kV dc pm cd ct : Value}
    (a : PySem.W.nsIn K mainGlobals "law" = some (some (.ref f))) (l : K.lookup f = some ⟨oc, od, .func (fO "law" "law" st_law kV dc pm an cd ct), sl⟩) (c : PySem.W.codeIn K cd "law" = true) (k : PySem.W.keepIn K (.ref f) = true) :
    ∃ fd, C8.Def K mg "law" st_law f fd ∧ mg "law" = some (.ref f) ∧ ∀ (s : Shared) (u : Value), BindsTo s fd ⟨[u], []⟩ [("_law_script", u)] :=
  have F : C8.Fun K "law" "law" st_law f (fO "law" "law" st_law kV dc pm an cd ct) := ⟨oc, od, .none, kV, dc, pm, an, cd, ct, sl, rfl, l, c⟩
  ⟨_, ⟨F, PySem.W.mg_of X G a, k⟩, PySem.W.mg_of X G a, fun s u => .of_eq rfl⟩
theorem mk_Bt {h : Heap} (X : K.In h) (G : h.Ns mainGlobals mg) {t : Tok} (z_str : PySem.W.nsIn K mainGlobals "str" = some none) (z_tuple : PySem.W.nsIn K mainGlobals "tuple" = some none) (z_int : PySem.W.nsIn K mainGlobals "int" = some none) (z_bool : PySem.W.nsIn K mainGlobals "bool" = some none) (z_list : PySem.W.nsIn K mainGlobals "list" = some none) (z_len : PySem.W.nsIn K mainGlobals "len" = some none) (z_abs : PySem.W.nsIn K mainGlobals "abs" = some none) (z_max : PySem.W.nsIn K mainGlobals "max" = some none) (z_min : PySem.W.nsIn K mainGlobals "min" = some none) (z_sum : PySem.W.nsIn K mainGlobals "sum" = some none) (z_all : PySem.W.nsIn K mainGlobals "all" = some none) (z_isinstance : PySem.W.nsIn K mainGlobals "isinstance" = some none) (z_range : PySem.W.nsIn K mainGlobals "range" = some none) (z_enumerate : PySem.W.nsIn K mainGlobals "enumerate" = some none)
    (mw : PySem.W.nsIn K mainGlobals "MOST_WORDS" = some (some (.int 1000 t))) : Bt mg :=
  ⟨PySem.W.mg_none_of X G z_str, PySem.W.mg_none_of X G z_tuple, PySem.W.mg_none_of X G z_int, PySem.W.mg_none_of X G z_bool, PySem.W.mg_none_of X G z_list, PySem.W.mg_none_of X G z_len, PySem.W.mg_none_of X G z_abs, PySem.W.mg_none_of X G z_max, PySem.W.mg_none_of X G z_min, PySem.W.mg_none_of X G z_sum, PySem.W.mg_none_of X G z_all, PySem.W.mg_none_of X G z_isinstance, PySem.W.mg_none_of X G z_range, PySem.W.mg_none_of X G z_enumerate, _, PySem.W.mg_of X G mw, _, rfl⟩
theorem mk_Cls {C : Addr} (pg : PySem.W.plainGet K C Str.empty = true) (hd : PySem.W.hasDictIn K C = true) (po : PySem.W.plainOver K C = true) (sa : PySem.W.findIn K (.ref C) "__setattr__" = some (some (.builtin "object.__setattr__"))) : Cls K C := ⟨pg, hd, po, sa⟩
theorem mk_g {h : Heap} (X : K.In h) (G : h.Ns mainGlobals mg) {x : Str} {C : Addr} (a : PySem.W.nsIn K mainGlobals x = some (some (.ref C))) : mg x = some (.ref C) := PySem.W.mg_of X G a
theorem kit_sub {CP CR : Addr} (h1 : PySem.W.mroIn K CP (.type "object") = some true) (h2 : PySem.W.typeIn K (.ref CP) = some (.type "type")) (h3 : PySem.W.subIn K (.ref CR) (.ref CP) = some true) : PySem.W.kitOne K (.ref CR) (.ref CP) = some true := by
  unfold PySem.W.kitOne
  by_cases e : ((Value.ref CR) == (Value.ref CP)) = true
  · rw [if_pos e]
  · rw [if_neg e]
    have hc : (PySem.W.clsIn K CP).isSome = true := by
      obtain ⟨cd, a, _⟩ := Option.bind_eq_some_iff.mp h1
      rw [a]
      rfl
    show (if ((PySem.W.clsIn K CP).isSome && PySem.W.typeIn K (.ref CP) == some (.type "type")) = true then PySem.W.subIn K (.ref CR) (.ref CP) else none) = some true
    rw [hc, h2, if_pos (by rfl)]
    exact h3
theorem all_mk {l : PySem.W.OpenLaw} {w : World} {h : Heap} {fa fl CP CR : Addr} (X : K.In h) (G : h.Ns mainGlobals mg) (hfa : mg "law" = some (.ref fa))
    (aP : PySem.W.nsIn K mainGlobals "Program" = some (some (.ref CP))) (aR : PySem.W.nsIn K mainGlobals "RawProgram" = some (some (.ref CR)))
    (D_is_give : Dn K mg "is_give" st_is_give ["word"])
    (D_is_take : Dn K mg "is_take" st_is_take ["word"])
    (D_name_of : Dn K mg "name_of" st_name_of ["word"])
    (D_asked_by : Dn K mg "asked_by" st_asked_by ["word"])
    (D_is_name : Dn K mg "is_name" st_is_name ["thing"])
    (D_is_word : Dn K mg "is_word" st_is_word ["thing"])
    (D_wrong_end : Dn K mg "wrong_end" st_wrong_end ["words"])
    (D_wrong_second : Dn K mg "wrong_second" st_wrong_second ["words"])
    (D_raw_ends : Dn K mg "raw_ends" st_raw_ends ["words"])
    (D_uses : Dn K mg "uses" st_uses ["words"])
    (D_wrong_take : Dn K mg "wrong_take" st_wrong_take ["words"])
    (D_fault_in : Dn K mg "fault_in" st_fault_in ["words"])
    (D_Program : Dm K mg "Program" "Program.__init__" CP st_Program_init ["self", "words"])
    (D_RawProgram : Dm K mg "RawProgram" "RawProgram.__init__" CR st_RawProgram_init ["self", "words"])
    (D_givens : Dn K mg "givens" st_givens ["program"])
    (D_is_step : Dn K mg "is_step" st_is_step ["words", "place"])
    (D_raw_steps : Dn K mg "raw_steps" st_raw_steps ["words"])
    (D_steps : Dn K mg "steps" st_steps ["program"])
    (D_raw_stepped : Dn K mg "raw_stepped" st_raw_stepped ["words", "place"])
    (D_way_to_rest : Dn K mg "way_to_rest" st_way_to_rest ["words"])
    (D_raw_rest : Dn K mg "raw_rest" st_raw_rest ["words"])
    (D_rest : Dn K mg "rest" st_rest ["program"])
    (D_many_steps : Dn K mg "many_steps" st_many_steps ["program"])
    (D_law_draw : Dn K mg "_law_draw" st_law_draw ["_law_pot_here", "_law_many"])
    (D_law_pot : Dn K mg "_law_pot" st_law_pot ["_law_script"])
    (D_law_ends : Dn K mg "_law_ends" st_law_ends ["_law_words_here"])
    (D_law_mixed : Dn K mg "_law_mixed" st_law_mixed ["_law_pot_here", "_law_items"])
    (D_law_letters : Dn K mg "_law_letters" st_law_letters ["_law_number"])
    (D_law_is_number : Dn K mg "_law_is_number" st_law_is_number ["_law_thing"])
    (D_law_is_words : Dn K mg "_law_is_words" st_law_is_words ["_law_thing", "_law_due"])
    (D_law_rested : Dn K mg "_law_rested" st_law_rested ["_law_words_here"])
    (D_law_words : Dn K mg "_law_words" st_law_words ["_law_pot_here", "_law_names", "_law_givens", "_law_used"])
    (D_law_grown : Dn K mg "_law_grown" st_law_grown ["_law_pot_here", "_law_words_here", "_law_many"])
    (D_law_called : Dn K mg "_law_called" st_law_called ["_law_pot_here", "_law_words_here"])
    (D_law_drawn : Dn K mg "_law_drawn" st_law_drawn ["_law_pot_here", "_law_names", "_law_mark"])
    (D_law_parts : Dn K mg "_law_parts" st_law_parts ["_law_pot_here", "_law_words_here"])
    (T : Bt mg) (clP : Cls K CP) (clR : Cls K CR) (nP : PySem.W.findIn K (.ref CP) "words" = some none) (nR : PySem.W.findIn K (.ref CR) "words" = some none)
    (ha : PySem.W.findIn K (.ref CR) "__class__" = some (some (.builtin "object.__class__"))) (hn : PySem.W.specialIn K (.builtin "object.__class__") "__get__" = some (some (.builtin "getset_descriptor.__get__")))
    (htk : PySem.W.takesIn K (.builtin "object.__class__") = some true) (hm : PySem.W.mroIn K CR (.type "object") = some true) (hm2 : PySem.W.mroIn K CP (.type "object") = some true) (ht2 : PySem.W.typeIn K (.ref CP) = some (.type "type")) (me : PySem.W.subIn K (.ref CR) (.ref CP) = some true)
    (L : ∃ fd, C8.Def K mg "law" st_law fl fd ∧ mg "law" = some (.ref fl) ∧ ∀ (s : Shared) (u : Value), BindsTo s fd ⟨[u], []⟩ [("_law_script", u)]) :
    ∃ fd : FuncData, (∀ (s : Shared) (u : Value), BindsTo s fd ⟨[u], []⟩ [("_law_script", u)]) ∧ ∀ base : Heap, K.In base → base.Ns mainGlobals mg → FnOk l.prog w K mg base C8.CX0 28 fa fd ["_law_script"] (spLaw K) := by
  obtain ⟨fd, F, hf, hb⟩ := L
  have e := hfa.symm.trans hf
  cases e
  have ct : Ct K mg CP CR := ⟨clP, clR, nP, nR, PySem.W.mg_of X G aP, PySem.W.mg_of X G aR, ha, hn, htk, hm, kit_sub hm2 ht2 me⟩
  exact ⟨fd, hb, fun base _ _ => fin D_is_give D_is_take D_name_of D_asked_by D_is_name D_is_word D_wrong_end D_wrong_second D_raw_ends D_uses D_wrong_take D_fault_in D_Program D_RawProgram D_givens D_is_step D_raw_steps D_steps D_raw_stepped D_way_to_rest D_raw_rest D_rest D_many_steps D_law_draw D_law_pot D_law_ends D_law_mixed D_law_letters D_law_is_number D_law_is_words D_law_rested D_law_words D_law_grown D_law_called D_law_drawn D_law_parts T ct F⟩
theorem walk {l : PySem.W.OpenLaw} {q : Program} {loose : List Str} {XP : (Str → Option Value) → Heap → Prop} {YP : World → Heap → Prop} {d : DefRec} {K : Params → PySem.W.Frag} (hn : l.most = some 63) (hdf : d.params.defaults = [])
    (hY : ∀ (w : World) (h : Heap), YP w h → (K w.params).In h)
    (F : ∀ (w : World) (mg : Str → Option Value) (fa : Addr) (h : Heap), (K w.params).In h → h.Ns mainGlobals mg → mg d.name = some (.ref fa) →
      ∃ fd : FuncData, (∀ (s : Shared) (u : Value), BindsTo s fd ⟨[u], []⟩ [("_law_script", u)]) ∧ ∀ base : Heap, (K w.params).In base → base.Ns mainGlobals mg → FnOk l.prog w (K w.params) mg base C8.CX0 28 fa fd ["_law_script"] (spLaw (K w.params))) :
    PySem.W.WalkO q loose XP YP l.row.toRowW d [] (fun f vs => PySem.call f vs) :=
  L2.walk_of (n := 63) (k := 28) (x := "_law_script") (CX := fun _ => C8.CX0) (sp := fun w => spLaw (K w.params)) hn (by decide) hdf ⟨rfl, by decide, by decide⟩ hY F (fun _ _ a ns hl _ hS => ⟨a, ns, rfl, hS, hl, fun _ => rfl⟩) fun _ _ _ _ _ z => z
end Ok
open PySem PySem.W PyProof.Rows
set_option maxRecDepth 100000 in
set_option maxHeartbeats 0 in
theorem PySem.Challenge.cw_oncekinds_k17_whole_steps_of_parts_holds : PySem.Challenge.rw_oncekinds_k17_whole_steps_of_parts.Holds := by
  w_on; o_law; k_head; (case hw => w_witness2)
  k_fill
  refine Ok.walk (l := PySem.Challenge.rw_oncekinds_k17_whole_steps_of_parts) rfl rfl (fun w h Y => PySem.W.kIn_of Y) ?F
  case F =>
    intro w mg fa h KX G hmg
    refine' Ok.all_mk KX G hmg ?aP ?aR ?D_is_give ?D_is_take ?D_name_of ?D_asked_by ?D_is_name ?D_is_word ?D_wrong_end ?D_wrong_second ?D_raw_ends ?D_uses ?D_wrong_take ?D_fault_in ?D_Program ?D_RawProgram ?D_givens ?D_is_step ?D_raw_steps ?D_steps ?D_raw_stepped ?D_way_to_rest ?D_raw_rest ?D_rest ?D_many_steps ?D_law_draw ?D_law_pot ?D_law_ends ?D_law_mixed ?D_law_letters ?D_law_is_number ?D_law_is_words ?D_law_rested ?D_law_words ?D_law_grown ?D_law_called ?D_law_drawn ?D_law_parts ?T ?clP ?clR ?nP ?nR ?ha ?hn ?htk ?hm ?hm2 ?ht2 ?me ?L
    (case aP => k_is); (case aR => k_is)
    (case D_is_give => (refine' Ok.mk_is_give KX G ?a ?l ?c ?k; (case a => k_is); (case l => k_is); (case c => k_is); (case k => k_is)))
    (case D_is_take => (refine' Ok.mk_is_take KX G ?a ?l ?c ?k; (case a => k_is); (case l => k_is); (case c => k_is); (case k => k_is)))
    (case D_name_of => (refine' Ok.mk_name_of KX G ?a ?l ?c ?k; (case a => k_is); (case l => k_is); (case c => k_is); (case k => k_is)))
    (case D_asked_by => (refine' Ok.mk_asked_by KX G ?a ?l ?c ?k; (case a => k_is); (case l => k_is); (case c => k_is); (case k => k_is)))
    (case D_is_name => (refine' Ok.mk_is_name KX G ?a ?l ?c ?k; (case a => k_is); (case l => k_is); (case c => k_is); (case k => k_is)))
    (case D_is_word => (refine' Ok.mk_is_word KX G ?a ?l ?c ?k; (case a => k_is); (case l => k_is); (case c => k_is); (case k => k_is)))
    (case D_wrong_end => (refine' Ok.mk_wrong_end KX G ?a ?l ?c ?k; (case a => k_is); (case l => k_is); (case c => k_is); (case k => k_is)))
    (case D_wrong_second => (refine' Ok.mk_wrong_second KX G ?a ?l ?c ?k; (case a => k_is); (case l => k_is); (case c => k_is); (case k => k_is)))
    (case D_raw_ends => (refine' Ok.mk_raw_ends KX G ?a ?l ?c ?k; (case a => k_is); (case l => k_is); (case c => k_is); (case k => k_is)))
    (case D_uses => (refine' Ok.mk_uses KX G ?a ?l ?c ?k; (case a => k_is); (case l => k_is); (case c => k_is); (case k => k_is)))
    (case D_wrong_take => (refine' Ok.mk_wrong_take KX G ?a ?l ?c ?k; (case a => k_is); (case l => k_is); (case c => k_is); (case k => k_is)))
    (case D_fault_in => (refine' Ok.mk_fault_in KX G ?a ?l ?c ?k; (case a => k_is); (case l => k_is); (case c => k_is); (case k => k_is)))
    (case D_Program => (refine' Ok.mk_Program KX G ?g ?m ?kc ?a ?i ?l ?c; (case g => (refine' Ok.mk_g KX G ?gg; (case gg => k_is))); (case m => k_is); (case kc => k_is); (case a => k_is); (case i => k_is); (case l => k_is); (case c => k_is)))
    (case D_RawProgram => (refine' Ok.mk_RawProgram KX G ?g ?m ?kc ?a ?i ?l ?c; (case g => (refine' Ok.mk_g KX G ?gg; (case gg => k_is))); (case m => k_is); (case kc => k_is); (case a => k_is); (case i => k_is); (case l => k_is); (case c => k_is)))
    (case D_givens => (refine' Ok.mk_givens KX G ?a ?l ?c ?k; (case a => k_is); (case l => k_is); (case c => k_is); (case k => k_is)))
    (case D_is_step => (refine' Ok.mk_is_step KX G ?a ?l ?c ?k; (case a => k_is); (case l => k_is); (case c => k_is); (case k => k_is)))
    (case D_raw_steps => (refine' Ok.mk_raw_steps KX G ?a ?l ?c ?k; (case a => k_is); (case l => k_is); (case c => k_is); (case k => k_is)))
    (case D_steps => (refine' Ok.mk_steps KX G ?a ?l ?c ?k; (case a => k_is); (case l => k_is); (case c => k_is); (case k => k_is)))
    (case D_raw_stepped => (refine' Ok.mk_raw_stepped KX G ?a ?l ?c ?k; (case a => k_is); (case l => k_is); (case c => k_is); (case k => k_is)))
    (case D_way_to_rest => (refine' Ok.mk_way_to_rest KX G ?a ?l ?c ?k; (case a => k_is); (case l => k_is); (case c => k_is); (case k => k_is)))
    (case D_raw_rest => (refine' Ok.mk_raw_rest KX G ?a ?l ?c ?k; (case a => k_is); (case l => k_is); (case c => k_is); (case k => k_is)))
    (case D_rest => (refine' Ok.mk_rest KX G ?a ?l ?c ?k; (case a => k_is); (case l => k_is); (case c => k_is); (case k => k_is)))
    (case D_many_steps => (refine' Ok.mk_many_steps KX G ?a ?l ?c ?k; (case a => k_is); (case l => k_is); (case c => k_is); (case k => k_is)))
    (case D_law_draw => (refine' Ok.mk_law_draw KX G ?a ?l ?c ?k; (case a => k_is); (case l => k_is); (case c => k_is); (case k => k_is)))
    (case D_law_pot => (refine' Ok.mk_law_pot KX G ?a ?l ?c ?k; (case a => k_is); (case l => k_is); (case c => k_is); (case k => k_is)))
    (case D_law_ends => (refine' Ok.mk_law_ends KX G ?a ?l ?c ?k; (case a => k_is); (case l => k_is); (case c => k_is); (case k => k_is)))
    (case D_law_mixed => (refine' Ok.mk_law_mixed KX G ?a ?l ?c ?k; (case a => k_is); (case l => k_is); (case c => k_is); (case k => k_is)))
    (case D_law_letters => (refine' Ok.mk_law_letters KX G ?a ?l ?c ?k; (case a => k_is); (case l => k_is); (case c => k_is); (case k => k_is)))
    (case D_law_is_number => (refine' Ok.mk_law_is_number KX G ?a ?l ?c ?k; (case a => k_is); (case l => k_is); (case c => k_is); (case k => k_is)))
    (case D_law_is_words => (refine' Ok.mk_law_is_words KX G ?a ?l ?c ?k; (case a => k_is); (case l => k_is); (case c => k_is); (case k => k_is)))
    (case D_law_rested => (refine' Ok.mk_law_rested KX G ?a ?l ?c ?k; (case a => k_is); (case l => k_is); (case c => k_is); (case k => k_is)))
    (case D_law_words => (refine' Ok.mk_law_words KX G ?a ?l ?c ?k; (case a => k_is); (case l => k_is); (case c => k_is); (case k => k_is)))
    (case D_law_grown => (refine' Ok.mk_law_grown KX G ?a ?l ?c ?k; (case a => k_is); (case l => k_is); (case c => k_is); (case k => k_is)))
    (case D_law_called => (refine' Ok.mk_law_called KX G ?a ?l ?c ?k; (case a => k_is); (case l => k_is); (case c => k_is); (case k => k_is)))
    (case D_law_drawn => (refine' Ok.mk_law_drawn KX G ?a ?l ?c ?k; (case a => k_is); (case l => k_is); (case c => k_is); (case k => k_is)))
    (case D_law_parts => (refine' Ok.mk_law_parts KX G ?a ?l ?c ?k; (case a => k_is); (case l => k_is); (case c => k_is); (case k => k_is)))
    (case T => (refine' Ok.mk_Bt KX G ?z_str ?z_tuple ?z_int ?z_bool ?z_list ?z_len ?z_abs ?z_max ?z_min ?z_sum ?z_all ?z_isinstance ?z_range ?z_enumerate ?mw; (case z_str => k_is); (case z_tuple => k_is); (case z_int => k_is); (case z_bool => k_is); (case z_list => k_is); (case z_len => k_is); (case z_abs => k_is); (case z_max => k_is); (case z_min => k_is); (case z_sum => k_is); (case z_all => k_is); (case z_isinstance => k_is); (case z_range => k_is); (case z_enumerate => k_is); (case mw => k_is)))
    (case clP => (refine' Ok.mk_Cls ?pg ?hd ?po ?sa; (case pg => k_is); (case hd => k_is); (case po => k_is); (case sa => k_is)))
    (case clR => (refine' Ok.mk_Cls ?pg ?hd ?po ?sa; (case pg => k_is); (case hd => k_is); (case po => k_is); (case sa => k_is)))
    (case nP => k_is)
    (case nR => k_is)
    (case ha => k_is)
    (case hn => k_is)
    (case htk => k_is)
    (case hm => k_is)
    (case hm2 => k_is)
    (case ht2 => k_is)
    (case me => k_is)
    (case L => (refine' Ok.mk_law KX G ?a ?l ?c ?k; (case a => k_is); (case l => k_is); (case c => k_is); (case k => k_is)))
