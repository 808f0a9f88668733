import PyProof.Rows.All
import Wide.All
import OpenK.AllK
import Wide.FinOn
import HandS.ForMost
import HandS.ForExc
import HandS.Wide
import HandS.IsInst
import HandS.CallSlots
import HandS.Comp
import HandS.ExcCtx
import HandS.HotCalls
import HandS.Walk
import KE.KExcSuper
import HandS.ExcInit
import HandS.ExcIs
import HandS.ExcField
import HandS.HeadHook4
import HandS.Head0
import HandS.Head1
import HandS.Head2
import HandS.HeadEnd
import HandS.HeadHook1
import HandS.HeadHook2
import PySem.Challenge.RW_fourbells_k00_scanned_lines
section
set_option Elab.async false
set_option linter.all false
set_option maxRecDepth 100000
set_option maxHeartbeats 2000000
/-! Mir0: data as trees with marks of ownership; what a heap holds of them. -/
namespace Mir
open PySem PySem.Spec PyProof.Rows L2

/-- data: a list, a dict or an instance bears a mark: own (nobody else holds it), or shared (never changed again) -/
inductive D where
  | non
  | bl (b : Bool)
  | int (i : Int)
  | str (x : Str)
  | val (v : V)
  | seq (vs : List V)
  | lst (o : Bool) (xs : List D)
  | tup (xs : List D)
  | dic (o : Bool) (ks : List Key) (xs : List D)
  | ins (o : Bool) (C : Str) (fs : List Str) (xs : List D)
  /-- the exception that a suite holds -/
  | exn
abbrev Env := List (Option D)
abbrev St := L2.St

/-- the written part, and where the classes stand -/
structure Cb where
  K : PySem.W.Frag
  cls : Str → Option Addr
/-- .. and the exceptions that are held: the dict's place, the fields, their data (shared) -/
structure Cn extends Cb where
  kp : List (Addr × List Str × List D) := []
  /-- where the exception stands that a suite holds -/
  ea : Option Addr := none
instance : Coe Cn Cb := ⟨Cn.toCb⟩
def Fx : HO → Prop
  | .ins _ _ _ => True
  | .xd _ => True
  | _ => False

section
variable (c : Cb) (Z : Addr → Prop) (H : Hp)
mutual
def Rep : D → V → List Addr → Prop
  | .non, v, fp => v = .non ∧ fp = []
  | .bl b, v, fp => v = .bl b ∧ fp = []
  | .int i, v, fp => v = .int i ∧ fp = []
  | .str x, v, fp => v = .str x ∧ fp = []
  | .val u, v, fp => v = u ∧ fp = []
  | .seq vs, v, fp => ∃ a, v = .ref a ∧ SqL c.K H a vs ∧ (Z a ∨ ∀ H', SqL c.K H' a vs) ∧ fp = []
  | .lst o xs, v, fp => ∃ a vs f, v = .ref a ∧ RepL xs vs f ∧
      if o = true then H a = some (.lst vs) ∧ fp = a :: f else Rd H a (.lst vs) ∧ Z a ∧ f = [] ∧ fp = []
  | .tup xs, v, fp => ∃ a vs, v = .ref a ∧ RepL xs vs fp ∧ SqT c.K H a vs
  | .dic o ks xs, v, fp => ∃ a vs f, v = .ref a ∧ RepL xs vs f ∧ ks.length = xs.length ∧
      if o = true then H a = some (.dK (ks.zip vs)) ∧ fp = a :: f else Rd H a (.dK (ks.zip vs)) ∧ Z a ∧ f = [] ∧ fp = []
  | .ins o C fs xs, v, fp => ∃ a vs f, v = .ref a ∧ RepL xs vs f ∧ fs.length = xs.length ∧
      ∃ A dx, c.cls C = some A ∧ H a = some (.ins A dx (fs.zip vs)) ∧ if o = true then fp = a :: f else Z a ∧ f = [] ∧ fp = []
  | .exn, v, fp => (∃ a, v = .ref a) ∧ fp = []
def RepL : List D → List V → List Addr → Prop
  | [], vs, fp => vs = [] ∧ fp = []
  | d :: ds, vs, fp => ∃ v r f g, vs = v :: r ∧ Rep d v f ∧ RepL ds r g ∧ fp = f ++ g
end
/-- what is held, one beside the other -/
def RepA : List (V × D) → List Addr → Prop
  | [], fp => fp = []
  | p :: L, fp => ∃ f g, Rep c Z H p.2 p.1 f ∧ RepA L g ∧ fp = f ++ g
end

/-- what a step of the heap leaves -/
structure Cmp (c : Cb) (Z : Addr → Prop) (H H' : Hp) (fp : List Addr) : Prop where
  rd : ∀ b u, Z b → Rd H b u → Rd H' b u
  ins : ∀ b o, Z b → Fx o → H b = some o → H' b = some o
  own : ∀ b ∈ fp, H' b = H b
  tup : ∀ b xs, SqT c.K H b xs → SqT c.K H' b xs
theorem Cmp.sub {c : Cb} {Z : Addr → Prop} {H H' : Hp} {f g : List Addr} (h : Cmp c Z H H' f) (s : ∀ b ∈ g, b ∈ f) : Cmp c Z H H' g := ⟨h.rd, h.ins, fun b hb => h.own b (s b hb), h.tup⟩

section
variable {c : Cb} {Z Z' : Addr → Prop} {H H' : Hp}
theorem sqL_of_rd {a : Addr} {vs : List V} (h : SqL c.K H a vs) (z : Z a ∨ ∀ H', SqL c.K H' a vs) (k : ∀ b u, Z b → Rd H b u → Rd H' b u) : SqL c.K H' a vs := by
  rcases z with z | z
  · rcases h with h | h
    · exact .inl (k _ _ z h)
    · exact .inr h
  · exact z H'
mutual
theorem Rep.mono (zz : ∀ b, Z b → Z' b) : ∀ (d : D) (v : V) (fp : List Addr), Cmp c Z H H' fp → Rep c Z H d v fp → Rep c Z' H' d v fp
  | .non, _, _, _, h => h
  | .bl _, _, _, _, h => h
  | .int _, _, _, _, h => h
  | .str _, _, _, _, h => h
  | .val _, _, _, _, h => h
  | .seq vs, v, fp, k, h => by
    simp only [Rep] at h ⊢
    obtain ⟨a, e, q1, q2, q3⟩ := h
    exact ⟨a, e, sqL_of_rd q1 q2 k.rd, q2.imp (zz a) id, q3⟩
  | .lst o xs, v, fp, k, h => by
    simp only [Rep] at h ⊢
    obtain ⟨a, vs, f, e, r, q⟩ := h
    cases o with
    | true =>
      simp only [if_true] at q ⊢
      obtain ⟨q1, q2⟩ := q
      refine ⟨a, vs, f, e, RepL.mono zz xs vs f (k.sub fun b hb => by rw [q2]; exact List.mem_cons_of_mem _ hb) r, ?_, q2⟩
      rw [k.own a (by rw [q2]; exact List.mem_cons_self), q1]
    | false =>
      simp only [Bool.false_eq_true, if_false] at q ⊢
      obtain ⟨q1, q2, q3, q4⟩ := q
      refine ⟨a, vs, f, e, RepL.mono zz xs vs f (k.sub fun b hb => by rw [q3] at hb; cases hb) r, k.rd _ _ q2 q1, zz _ q2, q3, q4⟩
  | .tup xs, v, fp, k, h => by
    simp only [Rep] at h ⊢
    obtain ⟨a, vs, e, r, q⟩ := h
    exact ⟨a, vs, e, RepL.mono zz xs vs fp k r, k.tup _ _ q⟩
  | .dic o ks xs, v, fp, k, h => by
    simp only [Rep] at h ⊢
    obtain ⟨a, vs, f, e, r, l, q⟩ := h
    cases o with
    | true =>
      simp only [if_true] at q ⊢
      obtain ⟨q1, q2⟩ := q
      refine ⟨a, vs, f, e, RepL.mono zz xs vs f (k.sub fun b hb => by rw [q2]; exact List.mem_cons_of_mem _ hb) r, l, ?_, q2⟩
      rw [k.own a (by rw [q2]; exact List.mem_cons_self), q1]
    | false =>
      simp only [Bool.false_eq_true, if_false] at q ⊢
      obtain ⟨q1, q2, q3, q4⟩ := q
      exact ⟨a, vs, f, e, RepL.mono zz xs vs f (k.sub fun b hb => by rw [q3] at hb; cases hb) r, l, k.rd _ _ q2 q1, zz _ q2, q3, q4⟩
  | .ins o C fs xs, v, fp, k, h => by
    simp only [Rep] at h ⊢
    obtain ⟨a, vs, f, e, r, l, A, dx, ec, q1, q⟩ := h
    cases o with
    | true =>
      simp only [if_true] at q ⊢
      refine ⟨a, vs, f, e, RepL.mono zz xs vs f (k.sub fun b hb => by rw [q]; exact List.mem_cons_of_mem _ hb) r, l, A, dx, ec, ?_, q⟩
      rw [k.own a (by rw [q]; exact List.mem_cons_self), q1]
    | false =>
      simp only [Bool.false_eq_true, if_false] at q ⊢
      obtain ⟨q2, q3, q4⟩ := q
      exact ⟨a, vs, f, e, RepL.mono zz xs vs f (k.sub fun b hb => by rw [q3] at hb; cases hb) r, l, A, dx, ec, k.ins _ _ q2 trivial q1, zz _ q2, q3, q4⟩
  | .exn, _, _, _, h => by simpa only [Rep] using h
theorem RepL.mono (zz : ∀ b, Z b → Z' b) : ∀ (ds : List D) (vs : List V) (fp : List Addr), Cmp c Z H H' fp → RepL c Z H ds vs fp → RepL c Z' H' ds vs fp
  | [], _, _, _, h => h
  | d :: ds, vs, fp, k, h => by
    simp only [RepL] at h ⊢
    obtain ⟨v, r, f, g, e, h1, h2, e2⟩ := h
    exact ⟨v, r, f, g, e, Rep.mono zz d v f (k.sub fun b hb => by rw [e2]; exact List.mem_append_left _ hb) h1, RepL.mono zz ds r g (k.sub fun b hb => by rw [e2]; exact List.mem_append_right _ hb) h2, e2⟩
end
theorem RepA.mono (zz : ∀ b, Z b → Z' b) : ∀ (L : List (V × D)) (fp : List Addr), Cmp c Z H H' fp → RepA c Z H L fp → RepA c Z' H' L fp
  | [], _, _, h => h
  | p :: L, fp, k, h => by
    obtain ⟨f, g, h1, h2, e⟩ := h
    exact ⟨f, g, Rep.mono zz _ _ f (k.sub fun b hb => by rw [e]; exact List.mem_append_left _ hb) h1, RepA.mono zz L g (k.sub fun b hb => by rw [e]; exact List.mem_append_right _ hb) h2, e⟩
mutual
/-- what is owned stands -/
theorem Rep.there : ∀ (d : D) (v : V) (fp : List Addr), Rep c Z H d v fp → ∀ b ∈ fp, ∃ o, H b = some o ∧ Mut (some o)
  | .non, _, _, h, b, hb => by rw [h.2] at hb; cases hb
  | .bl _, _, _, h, b, hb => by rw [h.2] at hb; cases hb
  | .int _, _, _, h, b, hb => by rw [h.2] at hb; cases hb
  | .str _, _, _, h, b, hb => by rw [h.2] at hb; cases hb
  | .val _, _, _, h, b, hb => by rw [h.2] at hb; cases hb
  | .seq _, _, _, h, b, hb => by
    simp only [Rep] at h
    obtain ⟨a, e, q1, q2, q3⟩ := h
    rw [q3] at hb; cases hb
  | .lst o xs, v, fp, h, b, hb => by
    simp only [Rep] at h
    obtain ⟨a, vs, f, e, r, q⟩ := h
    cases o with
    | true =>
      simp only [if_true] at q
      obtain ⟨q1, q2⟩ := q
      rw [q2] at hb
      rcases List.mem_cons.mp hb with z | z
      · subst z; exact ⟨_, q1, trivial⟩
      · exact RepL.there xs vs f r b z
    | false =>
      simp only [Bool.false_eq_true, if_false] at q
      rw [q.2.2.2] at hb; cases hb
  | .tup xs, v, fp, h, b, hb => by
    simp only [Rep] at h
    obtain ⟨a, vs, e, r, q⟩ := h
    exact RepL.there xs vs fp r b hb
  | .dic o ks xs, v, fp, h, b, hb => by
    simp only [Rep] at h
    obtain ⟨a, vs, f, e, r, l, q⟩ := h
    cases o with
    | true =>
      simp only [if_true] at q
      obtain ⟨q1, q2⟩ := q
      rw [q2] at hb
      rcases List.mem_cons.mp hb with z | z
      · subst z; exact ⟨_, q1, trivial⟩
      · exact RepL.there xs vs f r b z
    | false =>
      simp only [Bool.false_eq_true, if_false] at q
      rw [q.2.2.2] at hb; cases hb
  | .ins o C fs xs, v, fp, h, b, hb => by
    simp only [Rep] at h
    obtain ⟨a, vs, f, e, r, l, A, dx, ec, q1, q⟩ := h
    cases o with
    | true =>
      simp only [if_true] at q
      rw [q] at hb
      rcases List.mem_cons.mp hb with z | z
      · subst z; exact ⟨_, q1, trivial⟩
      · exact RepL.there xs vs f r b z
    | false =>
      simp only [Bool.false_eq_true, if_false] at q
      rw [q.2.2] at hb; cases hb
  | .exn, _, _, h, b, hb => by
    simp only [Rep] at h
    rw [h.2] at hb; cases hb
theorem RepL.there : ∀ (ds : List D) (vs : List V) (fp : List Addr), RepL c Z H ds vs fp → ∀ b ∈ fp, ∃ o, H b = some o ∧ Mut (some o)
  | [], _, _, h, b, hb => by rw [h.2] at hb; cases hb
  | d :: ds, vs, fp, h, b, hb => by
    simp only [RepL] at h
    obtain ⟨v, r, f, g, e, h1, h2, e2⟩ := h
    rw [e2] at hb
    rcases List.mem_append.mp hb with z | z
    · exact Rep.there d v f h1 b z
    · exact RepL.there ds r g h2 b z
end
theorem RepA.there : ∀ (L : List (V × D)) (fp : List Addr), RepA c Z H L fp → ∀ b ∈ fp, ∃ o, H b = some o ∧ Mut (some o)
  | [], _, h, b, hb => by rw [show _ = [] from h] at hb; cases hb
  | p :: L, fp, h, b, hb => by
    obtain ⟨f, g, h1, h2, e2⟩ := h
    rw [e2] at hb
    rcases List.mem_append.mp hb with z | z
    · exact Rep.there _ _ f h1 b z
    · exact RepA.there L g h2 b z
theorem RepL.len : ∀ (ds : List D) (vs : List V) (fp : List Addr), RepL c Z H ds vs fp → vs.length = ds.length
  | [], vs, _, h => by
    have e : vs = [] := h.1
    subst e
    rfl
  | d :: ds, vs, fp, h => by
    simp only [RepL] at h
    obtain ⟨v, r, f, g, e, h1, h2, e2⟩ := h
    rw [e, List.length_cons, List.length_cons, RepL.len ds r g h2]
theorem RepL.all : ∀ (ds : List D) (vs : List V) (fp : List Addr), RepL c Z H ds vs fp → RepA c Z H (vs.zip ds) fp
  | [], _, _, h => by rw [h.1, h.2]; rfl
  | d :: ds, vs, fp, h => by
    simp only [RepL] at h
    obtain ⟨v, r, f, g, e, h1, h2, e2⟩ := h
    rw [e, e2]
    exact ⟨f, g, h1, RepL.all ds r g h2, rfl⟩
theorem RepA.toL : ∀ (ds : List D) (vs : List V) (fp : List Addr), vs.length = ds.length → RepA c Z H (vs.zip ds) fp → RepL c Z H ds vs fp
  | [], [], _, _, h => ⟨rfl, h⟩
  | [], _ :: _, _, l, _ => by cases l
  | _ :: _, [], _, l, _ => by cases l
  | d :: ds, v :: vs, fp, l, h => by
    obtain ⟨f, g, h1, h2, e⟩ := h
    simp only [RepL]
    exact ⟨v, vs, f, g, rfl, h1, RepA.toL ds vs g (Nat.succ.inj l) h2, e⟩
theorem RepA.append : ∀ (L M : List (V × D)) (f g : List Addr), RepA c Z H L f → RepA c Z H M g → RepA c Z H (L ++ M) (f ++ g)
  | [], M, f, g, h, k => by rw [show f = [] from h]; exact k
  | p :: L, M, fp, g, h, k => by
    obtain ⟨f1, f2, h1, h2, e⟩ := h
    exact ⟨f1, f2 ++ g, h1, RepA.append L M f2 g h2 k, by rw [e, List.append_assoc]⟩
theorem RepA.split : ∀ (L M : List (V × D)) (fp : List Addr), RepA c Z H (L ++ M) fp → ∃ f g, RepA c Z H L f ∧ RepA c Z H M g ∧ fp = f ++ g
  | [], M, fp, h => ⟨[], fp, rfl, h, rfl⟩
  | p :: L, M, fp, h => by
    obtain ⟨f1, f2, h1, h2, e⟩ := h
    obtain ⟨f, g, h3, h4, e2⟩ := RepA.split L M f2 h2
    exact ⟨f1 ++ f, g, ⟨f1, f, h1, h3, rfl⟩, h4, by rw [e, e2, List.append_assoc]⟩
theorem RepA.perm {L M : List (V × D)} (p : L.Perm M) : ∀ fp, RepA c Z H L fp → ∃ fp', RepA c Z H M fp' ∧ fp.Perm fp' := by
  induction p with
  | nil => exact fun fp h => ⟨fp, h, .refl _⟩
  | cons x p ih =>
    intro fp h
    obtain ⟨f, g, h1, h2, e⟩ := h
    obtain ⟨g', h3, q⟩ := ih g h2
    exact ⟨f ++ g', ⟨f, g', h1, h3, rfl⟩, by rw [e]; exact List.Perm.append_left f q⟩
  | swap x y l =>
    intro fp h
    obtain ⟨f, g, h1, ⟨f', g', h2, h3, e2⟩, e⟩ := h
    refine ⟨f' ++ (f ++ g'), ⟨f', f ++ g', h2, ⟨f, g', h1, h3, rfl⟩, rfl⟩, ?_⟩
    rw [e, e2, ← List.append_assoc, ← List.append_assoc]
    exact List.Perm.append_right g' List.perm_append_comm
  | trans p q ih1 ih2 =>
    intro fp h
    obtain ⟨f1, h1, q1⟩ := ih1 fp h
    obtain ⟨f2, h2, q2⟩ := ih2 f1 h1
    exact ⟨f2, h2, q1.trans q2⟩
theorem RepA.sub {L M : List (V × D)} (p : M.Sublist L) : ∀ fp, RepA c Z H L fp → ∃ fp', RepA c Z H M fp' ∧ fp'.Sublist fp := by
  induction p with
  | slnil => exact fun fp h => ⟨fp, h, .refl _⟩
  | cons x p ih =>
    intro fp h
    obtain ⟨f, g, h1, h2, e⟩ := h
    obtain ⟨g', h3, q⟩ := ih g h2
    exact ⟨g', h3, by rw [e]; exact q.trans (List.sublist_append_right f g)⟩
  | cons_cons x p ih =>
    intro fp h
    obtain ⟨f, g, h1, h2, e⟩ := h
    obtain ⟨g', h3, q⟩ := ih g h2
    exact ⟨f ++ g', ⟨f, g', h1, h3, rfl⟩, by rw [e]; exact List.Sublist.append (.refl f) q⟩
end

/-- an exception that is held -/
def Kp (c : Cb) (Z : Addr → Prop) (H : Hp) (p : Addr × List Str × List D) : Prop := ∃ vs, H p.1 = some (.xd (p.2.1.zip vs)) ∧ Z p.1 ∧ p.2.1.length = p.2.2.length ∧ RepL c Z H p.2.2 vs []
/-- what is shared stands -/
structure ZOk (c : Cn) (Z : Addr → Prop) (H : Hp) : Prop where
  at' : ∀ a, Z a → ∃ o, H a = some o
  kp : ∀ p ∈ c.kp, Kp c.toCb Z H p
theorem Kp.mono {c : Cb} {Z Z' : Addr → Prop} {H H' : Hp} {p : Addr × List Str × List D} (zz : ∀ b, Z b → Z' b) (k : Cmp c Z H H' []) (h : Kp c Z H p) : Kp c Z' H' p := by
  obtain ⟨vs, h1, h2, h3, h4⟩ := h
  exact ⟨vs, k.ins _ _ h2 trivial h1, zz _ h2, h3, RepL.mono zz _ _ _ k h4⟩
/-- THE STATE: all of L is held, what it owns lies apart, and apart from R -/
def Good (c : Cn) (H : Hp) (R : List Addr) (L : List (V × D)) : Prop :=
  ∃ (Z : Addr → Prop) (fp : List Addr), RepA c.toCb Z H L fp ∧ (fp ++ R).Nodup ∧ (∀ a ∈ fp ++ R, ¬ Z a) ∧ ZOk c Z H
section
variable {c : Cn} {H H' : Hp} {R : List Addr} {L M : List (V × D)}
theorem Good.perm (g : Good c H R L) (p : L.Perm M) : Good c H R M := by
  obtain ⟨Z, fp, h, nd, nz, zt⟩ := g
  obtain ⟨fp', h', q⟩ := RepA.perm p fp h
  have q' : (fp ++ R).Perm (fp' ++ R) := List.Perm.append_right R q
  exact ⟨Z, fp', h', q'.nodup nd, fun a ha => nz a (q'.symm.subset ha), zt⟩
theorem Good.sub (g : Good c H R L) (p : M.Sublist L) : Good c H R M := by
  obtain ⟨Z, fp, h, nd, nz, zt⟩ := g
  obtain ⟨fp', h', q⟩ := RepA.sub p fp h
  have q' : (fp' ++ R).Sublist (fp ++ R) := List.Sublist.append q (.refl R)
  exact ⟨Z, fp', h', nd.sublist q', fun a ha => nz a (q'.subset ha), zt⟩
theorem Good.tail {p : V × D} (g : Good c H R (p :: L)) : Good c H R L := g.sub (List.sublist_cons_self p L)
theorem Good.drop1 {p q : V × D} (g : Good c H R (p :: q :: L)) : Good c H R (p :: L) := g.sub ((List.sublist_cons_self q L).cons_cons p)
theorem Good.swap {p q : V × D} (g : Good c H R (p :: q :: L)) : Good c H R (q :: p :: L) := g.perm (.swap q p L)
/-- a step of the heap at what is reserved -/
theorem Good.step (g : Good c H R L) {a : Addr} (ha : a ∈ R) (k : ∀ b, b ≠ a → H' b = H b) (nt : ∀ xs, SqT c.K H a xs → SqT c.K H' a xs) : Good c H' R L := by
  obtain ⟨Z, fp, h, nd, nz, zt⟩ := g
  have za : ¬ Z a := nz a (List.mem_append_right _ ha)
  have fa : a ∉ fp := fun hm => (List.nodup_append.mp nd).2.2 a hm a ha rfl
  have cm : Cmp c.toCb Z H H' fp := by
    refine ⟨fun b u z r => ?_, fun b o z _ e => ?_, fun b hb => k b fun e => fa (e ▸ hb), fun b xs q => ?_⟩
    · have nb : b ≠ a := fun e => za (e ▸ z)
      unfold Rd at r ⊢
      rw [k b nb]
      exact r
    · rw [k b fun e => za (e ▸ z)]
      exact e
    · by_cases e : b = a
      · subst e
        exact nt xs q
      · rcases q with q | q
        · refine .inl ?_
          unfold Rd at q ⊢
          rw [k b e]
          exact q
        · exact .inr q
  refine ⟨Z, fp, RepA.mono (fun _ z => z) L fp cm h, nd, nz, fun b z => ?_, fun p hp => (zt.kp p hp).mono (fun _ z => z) (cm.sub fun b hb => by cases hb)⟩
  rw [k b fun e => za (e ▸ z)]
  exact zt.at' b z
end

/-! ### shared for good -/
mutual
def fz : D → D
  | .non => .non
  | .bl b => .bl b
  | .int i => .int i
  | .str x => .str x
  | .val v => .val v
  | .seq vs => .seq vs
  | .lst _ xs => .lst false (fzL xs)
  | .tup xs => .tup (fzL xs)
  | .dic _ ks xs => .dic false ks (fzL xs)
  | .ins _ C fs xs => .ins false C fs (fzL xs)
  | .exn => .exn
def fzL : List D → List D
  | [] => []
  | d :: ds => fz d :: fzL ds
end
theorem fzL_map : ∀ ds, fzL ds = ds.map fz
  | [] => rfl
  | d :: ds => by
    rw [fzL, fzL_map ds]
    rfl
theorem fzL_len (ds : List D) : (fzL ds).length = ds.length := by rw [fzL_map, List.length_map]
mutual
theorem fz_fz : ∀ d, fz (fz d) = fz d
  | .non => rfl
  | .bl _ => rfl
  | .int _ => rfl
  | .str _ => rfl
  | .val _ => rfl
  | .seq _ => rfl
  | .lst _ xs => by simp only [fz, fzL_fzL xs]
  | .tup xs => by simp only [fz, fzL_fzL xs]
  | .dic _ _ xs => by simp only [fz, fzL_fzL xs]
  | .ins _ _ _ xs => by simp only [fz, fzL_fzL xs]
  | .exn => rfl
theorem fzL_fzL : ∀ ds, fzL (fzL ds) = fzL ds
  | [] => rfl
  | d :: ds => by simp only [fzL, fz_fz d, fzL_fzL ds]
end
section
variable {c : Cb} {Z Z' : Addr → Prop} {H : Hp}
mutual
theorem Rep.freeze (zz : ∀ b, Z b → Z' b) : ∀ (d : D) (v : V) (fp : List Addr), (∀ a ∈ fp, Z' a) → Rep c Z H d v fp → Rep c Z' H (fz d) v []
  | .non, _, _, _, h => ⟨h.1, rfl⟩
  | .bl _, _, _, _, h => ⟨h.1, rfl⟩
  | .int _, _, _, _, h => ⟨h.1, rfl⟩
  | .str _, _, _, _, h => ⟨h.1, rfl⟩
  | .val _, _, _, _, h => ⟨h.1, rfl⟩
  | .seq vs, v, fp, k, h => by
    simp only [Rep, fz] at h ⊢
    obtain ⟨a, e, q1, q2, q3⟩ := h
    exact ⟨a, e, q1, q2.imp (zz a) id, trivial⟩
  | .lst o xs, v, fp, k, h => by
    simp only [Rep, fz] at h ⊢
    obtain ⟨a, vs, f, e, r, q⟩ := h
    simp only [Bool.false_eq_true, if_false]
    cases o with
    | true =>
      simp only [if_true] at q
      obtain ⟨q1, q2⟩ := q
      exact ⟨a, vs, [], e, RepL.freeze zz xs vs f (fun b hb => k b (by rw [q2]; exact List.mem_cons_of_mem _ hb)) r, .of q1, k a (by rw [q2]; exact List.mem_cons_self), rfl, trivial⟩
    | false =>
      simp only [Bool.false_eq_true, if_false] at q
      obtain ⟨q1, q2, q3, q4⟩ := q
      exact ⟨a, vs, [], e, RepL.freeze zz xs vs f (fun b hb => by rw [q3] at hb; cases hb) r, q1, zz _ q2, rfl, trivial⟩
  | .tup xs, v, fp, k, h => by
    simp only [Rep, fz] at h ⊢
    obtain ⟨a, vs, e, r, q⟩ := h
    exact ⟨a, vs, e, RepL.freeze zz xs vs fp k r, q⟩
  | .dic o ks xs, v, fp, k, h => by
    simp only [Rep, fz] at h ⊢
    obtain ⟨a, vs, f, e, r, l, q⟩ := h
    simp only [Bool.false_eq_true, if_false]
    rw [fzL_len]
    cases o with
    | true =>
      simp only [if_true] at q
      obtain ⟨q1, q2⟩ := q
      exact ⟨a, vs, [], e, RepL.freeze zz xs vs f (fun b hb => k b (by rw [q2]; exact List.mem_cons_of_mem _ hb)) r, l, .of q1, k a (by rw [q2]; exact List.mem_cons_self), rfl, trivial⟩
    | false =>
      simp only [Bool.false_eq_true, if_false] at q
      obtain ⟨q1, q2, q3, q4⟩ := q
      exact ⟨a, vs, [], e, RepL.freeze zz xs vs f (fun b hb => by rw [q3] at hb; cases hb) r, l, q1, zz _ q2, rfl, trivial⟩
  | .ins o C fs xs, v, fp, k, h => by
    simp only [Rep, fz] at h ⊢
    obtain ⟨a, vs, f, e, r, l, A, dx, ec, q1, q⟩ := h
    simp only [Bool.false_eq_true, if_false]
    rw [fzL_len]
    cases o with
    | true =>
      simp only [if_true] at q
      exact ⟨a, vs, [], e, RepL.freeze zz xs vs f (fun b hb => k b (by rw [q]; exact List.mem_cons_of_mem _ hb)) r, l, A, dx, ec, q1, k a (by rw [q]; exact List.mem_cons_self), rfl, trivial⟩
    | false =>
      simp only [Bool.false_eq_true, if_false] at q
      obtain ⟨q2, q3, q4⟩ := q
      exact ⟨a, vs, [], e, RepL.freeze zz xs vs f (fun b hb => by rw [q3] at hb; cases hb) r, l, A, dx, ec, q1, zz _ q2, rfl, trivial⟩
  | .exn, _, _, _, h => by
    simp only [Rep, fz] at h ⊢
    exact ⟨h.1, trivial⟩
theorem RepL.freeze (zz : ∀ b, Z b → Z' b) : ∀ (ds : List D) (vs : List V) (fp : List Addr), (∀ a ∈ fp, Z' a) → RepL c Z H ds vs fp → RepL c Z' H (fzL ds) vs []
  | [], _, _, _, h => ⟨h.1, rfl⟩
  | d :: ds, vs, fp, k, h => by
    simp only [RepL, fzL] at h ⊢
    obtain ⟨v, r, f, g, e, h1, h2, e2⟩ := h
    exact ⟨v, r, [], [], e, Rep.freeze zz d v f (fun b hb => k b (by rw [e2]; exact List.mem_append_left _ hb)) h1, RepL.freeze zz ds r g (fun b hb => k b (by rw [e2]; exact List.mem_append_right _ hb)) h2, rfl⟩
end
end
section
variable {c : Cn} {H H' : Hp} {R : List Addr} {L M : List (V × D)} {v : V} {d : D}
/-- a thing is shared from now on: it may be held twice -/
theorem Good.dup (g : Good c H R ((v, d) :: L)) : Good c H R ((v, fz d) :: (v, fz d) :: L) := by
  obtain ⟨Z, fp, ⟨f, g, h1, h2, e⟩, nd, nz, zt⟩ := g
  subst e
  have nd' : (f ++ (g ++ R)).Nodup := by rw [← List.append_assoc]; exact nd
  have ap := (List.nodup_append.mp nd').2.2
  have h1' : Rep c (fun a => Z a ∨ a ∈ f) H (fz d) v [] := Rep.freeze (fun _ z => .inl z) d v f (fun a ha => .inr ha) h1
  have h2' : RepA c (fun a => Z a ∨ a ∈ f) H L g := RepA.mono (fun _ z => .inl z) L g ⟨fun _ _ _ r => r, fun _ _ _ _ e => e, fun _ _ => rfl, fun _ _ q => q⟩ h2
  refine ⟨fun a => Z a ∨ a ∈ f, g, ⟨[], g, h1', ⟨[], g, h1', h2', rfl⟩, rfl⟩, (List.nodup_append.mp nd').2.1, fun a ha z => ?_, fun a z => ?_, fun p hp => (zt.kp p hp).mono (fun _ z => .inl z) ⟨fun _ _ _ r => r, fun _ _ _ _ e => e, fun _ _ => rfl, fun _ _ q => q⟩⟩
  · rcases z with z | z
    · exact nz a (by rw [List.append_assoc]; exact List.mem_append_right _ ha) z
    · exact ap a z a ha rfl
  · rcases z with z | z
    · exact zt.at' a z
    · obtain ⟨o, e, _⟩ := Rep.there d v f h1 a z
      exact ⟨o, e⟩
theorem Good.freeze (g : Good c H R ((v, d) :: L)) : Good c H R ((v, fz d) :: L) := g.dup.tail
/-- a free place is reserved -/
theorem Good.fresh (g : Good c H R L) {p : Addr} (hp : H p = none) (hR : p ∉ R) : Good c H (p :: R) L := by
  obtain ⟨Z, fp, h, nd, nz, zt⟩ := g
  have np : p ∉ fp := fun hm => by
    obtain ⟨o, e, _⟩ := RepA.there L fp h p hm
    rw [hp] at e; cases e
  have q : (p :: (fp ++ R)).Perm (fp ++ p :: R) := (List.perm_middle).symm
  refine ⟨Z, fp, h, q.nodup (List.nodup_cons.mpr ⟨fun hm => (List.mem_append.mp hm).elim np hR, nd⟩), fun a ha z => ?_, zt⟩
  rcases List.mem_cons.mp (q.symm.subset ha) with e | e
  · subst e
    obtain ⟨o, e⟩ := zt.at' a z
    rw [hp] at e; cases e
  · exact nz a e z
/-- an own list is opened: its place is reserved -/
theorem Good.openL {ds : List D} (g : Good c H R ((v, .lst true ds) :: L)) : ∃ a vs, v = .ref a ∧ H a = some (.lst vs) ∧ vs.length = ds.length ∧ Good c H (a :: R) (vs.zip ds ++ L) := by
  obtain ⟨Z, fp, ⟨f, g, h1, h2, e⟩, nd, nz, zt⟩ := g
  simp only [Rep, if_true] at h1
  obtain ⟨a, vs, f', ev, r, q1, q2⟩ := h1
  subst e q2
  have q : (a :: f' ++ g ++ R).Perm (f' ++ g ++ a :: R) := by
    show (a :: (f' ++ g ++ R)).Perm (f' ++ g ++ a :: R)
    exact List.perm_middle.symm
  exact ⟨a, vs, ev, q1, RepL.len _ _ _ r, Z, f' ++ g, RepA.append _ _ _ _ (RepL.all _ _ _ r) h2, q.nodup nd, fun b hb => nz b (q.symm.subset hb), zt⟩
/-- .. and a list is laid there -/
theorem Good.closeL {ds : List D} {vs : List V} {a : Addr} (g : Good c H (a :: R) (vs.zip ds ++ L)) (hl : vs.length = ds.length) (hm : H a = none ∨ Mut (H a)) : Good c (upd H a (.lst vs)) R ((.ref a, .lst true ds) :: L) := by
  have g' : Good c (upd H a (.lst vs)) (a :: R) (vs.zip ds ++ L) := g.step List.mem_cons_self (fun b hb => upd_ne hb) fun xs q => by
    rcases q with q | q
    · rcases q with q | ⟨o, q⟩ <;> rcases hm with z | z <;> rw [q] at z <;> first | cases z | exact z.elim
    · exact .inr q
  obtain ⟨Z, fp, h, nd, nz, zt⟩ := g'
  obtain ⟨f, g, h1, h2, e⟩ := RepA.split _ _ _ h
  subst e
  have q : (f ++ g ++ a :: R).Perm (a :: f ++ g ++ R) := List.perm_middle
  refine ⟨Z, a :: f ++ g, ⟨a :: f, g, ?_, h2, rfl⟩, q.nodup nd, fun b hb => nz b (q.symm.subset hb), zt⟩
  simp only [Rep, if_true]
  exact ⟨a, vs, f, rfl, RepA.toL _ _ _ hl h1, upd_same, rfl⟩
/-- a shared list is read -/
theorem Good.readL {ds : List D} (g : Good c H R ((v, .lst false ds) :: L)) : ∃ a vs, v = .ref a ∧ Rd H a (.lst vs) ∧ vs.length = ds.length ∧ Good c H R (vs.zip ds ++ (v, .seq vs) :: L) := by
  obtain ⟨Z, fp, ⟨f, g, h1, h2, e⟩, nd, nz, zt⟩ := g
  simp only [Rep, Bool.false_eq_true, if_false] at h1
  obtain ⟨a, vs, f', ev, r, q1, q2, q3, q4⟩ := h1
  subst q3 q4 e
  have h1' : Rep c Z H (.seq vs) v [] := by
    simp only [Rep]
    exact ⟨a, ev, .inl q1, .inl q2, trivial⟩
  exact ⟨a, vs, ev, q1, RepL.len _ _ _ r, Z, [] ++ ([] ++ fp), RepA.append _ _ _ _ (RepL.all _ _ _ r) ⟨[], fp, h1', h2, rfl⟩, nd, nz, zt⟩
/-- a tuple is read -/
theorem Good.openT {ds : List D} (g : Good c H R ((v, .tup ds) :: L)) : ∃ a vs, v = .ref a ∧ SqT c.K H a vs ∧ vs.length = ds.length ∧ Good c H R (vs.zip ds ++ L) := by
  obtain ⟨Z, fp, ⟨f, g, h1, h2, e⟩, nd, nz, zt⟩ := g
  simp only [Rep] at h1
  obtain ⟨a, vs, ev, r, q⟩ := h1
  subst e
  exact ⟨a, vs, ev, q, RepL.len _ _ _ r, Z, f ++ g, RepA.append _ _ _ _ (RepL.all _ _ _ r) h2, nd, nz, zt⟩
theorem Good.closeT {ds : List D} {vs : List V} {a : Addr} (g : Good c H R (vs.zip ds ++ L)) (hl : vs.length = ds.length) (hq : SqT c.K H a vs) : Good c H R ((.ref a, .tup ds) :: L) := by
  obtain ⟨Z, fp, h, nd, nz, zt⟩ := g
  obtain ⟨f, g, h1, h2, e⟩ := RepA.split _ _ _ h
  subst e
  refine ⟨Z, f ++ g, ⟨f, g, ?_, h2, rfl⟩, nd, nz, zt⟩
  simp only [Rep]
  exact ⟨a, vs, rfl, RepA.toL _ _ _ hl h1, hq⟩
/-- a new tuple -/
theorem Good.newT {ds : List D} {vs : List V} {p : Addr} (g : Good c H R (vs.zip ds ++ L)) (hl : vs.length = ds.length) (hp : H p = none) (hR : p ∉ R) : Good c (upd H p (.tup vs)) R ((.ref p, .tup ds) :: L) := by
  have g' : Good c (upd H p (.tup vs)) (p :: R) (vs.zip ds ++ L) := (g.fresh hp hR).step List.mem_cons_self (fun b hb => upd_ne hb) fun xs q => by
    rcases q with q | q
    · rcases q with q | ⟨o, q⟩ <;> rw [hp] at q <;> cases q
    · exact .inr q
  have g'' : Good c (upd H p (.tup vs)) R (vs.zip ds ++ L) := by
    obtain ⟨Z, fp, h, nd, nz, zt⟩ := g'
    have s : (fp ++ R).Sublist (fp ++ p :: R) := List.Sublist.append (.refl _) (List.sublist_cons_self p R)
    exact ⟨Z, fp, h, nd.sublist s, fun a ha => nz a (s.subset ha), zt⟩
  exact g''.closeT hl (.of upd_same)
/-- a new list -/
theorem Good.newL {ds : List D} {vs : List V} {p : Addr} (g : Good c H R (vs.zip ds ++ L)) (hl : vs.length = ds.length) (hp : H p = none) (hR : p ∉ R) : Good c (upd H p (.lst vs)) R ((.ref p, .lst true ds) :: L) :=
  (g.fresh hp hR).closeL hl (.inl hp)
/-- what is known of a plain thing -/
theorem Good.head (g : Good c H R ((v, d) :: L)) : ∃ Z f, Rep c Z H d v f := by
  obtain ⟨Z, fp, ⟨f, g, h1, _, _⟩, _⟩ := g
  exact ⟨Z, f, h1⟩
theorem Good.isI {i : Int} (g : Good c H R ((v, .int i) :: L)) : v = .int i := by
  obtain ⟨Z, f, h⟩ := g.head
  exact h.1
theorem Good.isS {i : Str} (g : Good c H R ((v, .str i) :: L)) : v = .str i := by
  obtain ⟨Z, f, h⟩ := g.head
  exact h.1
theorem Good.isB {i : Bool} (g : Good c H R ((v, .bl i) :: L)) : v = .bl i := by
  obtain ⟨Z, f, h⟩ := g.head
  exact h.1
theorem Good.isN (g : Good c H R ((v, .non) :: L)) : v = .non := by
  obtain ⟨Z, f, h⟩ := g.head
  exact h.1
theorem Good.isV {u : V} (g : Good c H R ((v, .val u) :: L)) : v = u := by
  obtain ⟨Z, f, h⟩ := g.head
  exact h.1
/-- a plain thing beside -/
theorem Good.flat (g : Good c H R L) (h : ∀ Z, Rep c Z H d v []) : Good c H R ((v, d) :: L) := by
  obtain ⟨Z, fp, q, nd, nz, zt⟩ := g
  exact ⟨Z, fp, ⟨[], fp, h Z, q, rfl⟩, nd, nz, zt⟩
theorem Good.addI (g : Good c H R L) (i : Int) : Good c H R ((.int i, .int i) :: L) := g.flat fun _ => ⟨rfl, rfl⟩
theorem Good.addS (g : Good c H R L) (i : Str) : Good c H R ((.str i, .str i) :: L) := g.flat fun _ => ⟨rfl, rfl⟩
theorem Good.addB (g : Good c H R L) (i : Bool) : Good c H R ((.bl i, .bl i) :: L) := g.flat fun _ => ⟨rfl, rfl⟩
theorem Good.addN (g : Good c H R L) : Good c H R ((.non, .non) :: L) := g.flat fun _ => ⟨rfl, rfl⟩
theorem Good.addV (g : Good c H R L) (u : V) : Good c H R ((u, .val u) :: L) := g.flat fun _ => ⟨rfl, rfl⟩
/-- one of a row -/
theorem zip_at : ∀ {vs : List V} {ds : List D} {k : Nat} {x : V} {d : D}, vs[k]? = some x → ds[k]? = some d → (vs.zip ds).Perm ((x, d) :: (vs.eraseIdx k).zip (ds.eraseIdx k))
  | [], _, _, _, _, h, _ => by simp at h
  | _ :: _, [], _, _, _, _, h => by simp at h
  | v :: vs, e :: ds, 0, x, d, h, k => by
    simp at h k
    subst h k
    exact .refl _
  | v :: vs, e :: ds, k + 1, x, d, h, q => by
    have ih := zip_at (vs := vs) (ds := ds) (k := k) (x := x) (d := d) (by simpa using h) (by simpa using q)
    exact (List.Perm.cons (v, e) ih).trans (.swap _ _ _)
theorem zip_set {vs : List V} {ds : List D} {k : Nat} {x : V} {d : D} (h : vs[k]? = some x) (hk : k < ds.length) : (vs.zip (ds.set k d)).Perm ((x, d) :: (vs.eraseIdx k).zip (ds.eraseIdx k)) := by
  have q := zip_at (ds := ds.set k d) (d := d) h (List.getElem?_set_self hk)
  rw [List.eraseIdx_set_eq] at q
  exact q
theorem get_of_len {vs : List V} {ds : List D} {k : Nat} {d : D} (hl : vs.length = ds.length) (h : ds[k]? = some d) : ∃ x, vs[k]? = some x := by
  have h1 := (List.getElem?_eq_some_iff.mp h).1
  exact ⟨vs[k]'(by omega), List.getElem?_eq_getElem (by omega)⟩
/-- one of a row is shared -/
theorem Good.at {vs : List V} {ds : List D} {k : Nat} {x : V} (g : Good c H R (vs.zip ds ++ L)) (h : vs[k]? = some x) (q : ds[k]? = some d) : Good c H R ((x, fz d) :: (vs.zip (ds.set k (fz d)) ++ L)) := by
  have g1 := g.perm (List.Perm.append_right L (zip_at h q))
  have g2 : Good c H R ((x, fz d) :: (x, fz d) :: ((vs.eraseIdx k).zip (ds.eraseIdx k) ++ L)) := Good.dup g1
  refine g2.perm (List.Perm.cons _ ?_)
  exact (List.Perm.append_right L (zip_set h (List.getElem?_eq_some_iff.mp q).1)).symm
/-- a list, own or shared: its things, and how it is put together again -/
theorem Good.anyL {o : Bool} {ds : List D} (g : Good c H R ((v, .lst o ds) :: L)) : ∃ a vs, v = .ref a ∧ Rd H a (.lst vs) ∧ vs.length = ds.length ∧
    ∀ H' : Hp, (∀ b u, H b = some u → H' b = some u) → True := by
  cases o with
  | true =>
    obtain ⟨a, vs, e, h, l, _⟩ := g.openL
    exact ⟨a, vs, e, .of h, l, fun _ _ => trivial⟩
  | false =>
    obtain ⟨a, vs, e, h, l, _⟩ := g.readL
    exact ⟨a, vs, e, h, l, fun _ _ => trivial⟩
theorem fz_eq_of_false {ds : List D} {Z : Addr → Prop} {v : V} {f : List Addr} (h : Rep c Z H (.lst false ds) v f) : True := trivial
end
end Mir
end
section
set_option Elab.async false
set_option linter.all false
set_option maxRecDepth 100000
set_option maxHeartbeats 2000000
/-! Mir1: what a piece of a program yields, as a function of the slots' data; readings that keep to it. -/
namespace Mir
open PySem PySem.Spec PyProof.Rows L2

structure Exn where
  cls : Str
  fs : List Str
  xs : List D
inductive Out (α : Type) where
  | ok (a : α) (ρ : Env)
  | err (x : Exn) (ρ : Env)
  | bad
def M (α : Type) := Env → Out α
def M.bind {α β : Type} (f : M α) (g : α → M β) : M β := fun ρ => match f ρ with
  | .ok a ρ' => g a ρ'
  | .err x ρ' => .err x ρ'
  | .bad => .bad
instance : Monad M where
  pure a := fun ρ => .ok a ρ
  bind := M.bind
def badM {α : Type} : M α := fun _ => .bad
def optM {α : Type} (o : Option α) : M α := match o with
  | some a => pure a
  | none => badM
def peek (i : Nat) : M D := fun ρ => match ρ[i]? with
  | some (some d) => .ok d ρ
  | _ => .bad
def setv (i : Nat) (d : Option D) : M Unit := fun ρ => .ok () (ρ.set i d)
def isx : D → Bool
  | .exn => true
  | _ => false
theorem isx_fz : ∀ d, isx (fz d) = isx d
  | .non => rfl
  | .bl _ => rfl
  | .int _ => rfl
  | .str _ => rfl
  | .val _ => rfl
  | .seq _ => rfl
  | .lst _ _ => rfl
  | .tup _ => rfl
  | .dic _ _ _ => rfl
  | .ins _ _ _ _ => rfl
  | .exn => rfl
theorem isx_eq {d : D} (h : isx d = true) : d = .exn := by
  cases d <;> first | rfl | cases h
/-- a thing that is not a held exception -/
def setq (i : Nat) (d : D) : M Unit := fun ρ => if isx d = true then .bad else .ok () (ρ.set i (some d))
/-- a name is read: its thing is shared from now on -/
def rdv (i : Nat) : M D := do
  let d ← peek i
  setv i (some (fz d))
  pure (fz d)
/-- a name is read for the last time -/
def mvv (i : Nat) : M D := do
  let d ← peek i
  setv i none
  pure d

def OPost {α : Type} (K : α → Env → Prop) (KE : Exn → Env → Prop) : Out α → Prop
  | .ok a ρ => K a ρ
  | .err x ρ => KE x ρ
  | .bad => False
theorem OPost.imp {α : Type} {K K' : α → Env → Prop} {KE KE' : Exn → Env → Prop} {o : Out α} (h : OPost K KE o) (k : ∀ a ρ, K a ρ → K' a ρ) (e : ∀ x ρ, KE x ρ → KE' x ρ) : OPost K' KE' o := by
  cases o with
  | ok a ρ => exact k _ _ h
  | err x ρ => exact e _ _ h
  | bad => exact h
theorem bind_post {α β : Type} {K : β → Env → Prop} {KE : Exn → Env → Prop} {f : M α} {g : α → M β} {ρ : Env} : OPost K KE ((f >>= g) ρ) ↔ OPost (fun a ρ' => OPost K KE (g a ρ')) KE (f ρ) := by
  show OPost K KE (M.bind f g ρ) ↔ _
  unfold M.bind
  cases f ρ <;> exact Iff.rfl
theorem pure_post {α : Type} {K : α → Env → Prop} {KE : Exn → Env → Prop} {a : α} {ρ : Env} : OPost K KE ((pure a : M α) ρ) ↔ K a ρ := Iff.rfl
theorem bad_post {α : Type} {K : α → Env → Prop} {KE : Exn → Env → Prop} {ρ : Env} : OPost K KE ((badM : M α) ρ) ↔ False := Iff.rfl
theorem opt_post {α : Type} {K : α → Env → Prop} {KE : Exn → Env → Prop} {o : Option α} {ρ : Env} : OPost K KE (optM o ρ) ↔ ∃ a, o = some a ∧ K a ρ := by
  cases o with
  | none => exact ⟨fun h => h.elim, fun ⟨_, e, _⟩ => nomatch e⟩
  | some a => exact ⟨fun h => ⟨a, rfl, h⟩, fun ⟨_, e, h⟩ => by cases e; exact h⟩
theorem peek_post {K : D → Env → Prop} {KE : Exn → Env → Prop} {i : Nat} {ρ : Env} : OPost K KE (peek i ρ) ↔ ∃ d, ρ[i]? = some (some d) ∧ K d ρ := by
  unfold peek
  cases h : ρ[i]? with
  | none => exact ⟨fun h => h.elim, fun ⟨_, e, _⟩ => nomatch e⟩
  | some o =>
    cases o with
    | none => exact ⟨fun h => h.elim, fun ⟨_, e, _⟩ => nomatch e⟩
    | some d => exact ⟨fun h => ⟨d, rfl, h⟩, fun ⟨_, e, h⟩ => by cases e; exact h⟩
theorem setv_post {K : Unit → Env → Prop} {KE : Exn → Env → Prop} {i : Nat} {d : Option D} {ρ : Env} : OPost K KE (setv i d ρ) ↔ K () (ρ.set i d) := Iff.rfl
theorem setq_post {K : Unit → Env → Prop} {KE : Exn → Env → Prop} {i : Nat} {d : D} {ρ : Env} (h : OPost K KE (setq i d ρ)) : some d ≠ some D.exn ∧ K () (ρ.set i (some d)) := by
  unfold setq at h
  by_cases q : isx d = true
  · rw [if_pos q] at h
    exact h.elim
  · rw [if_neg q] at h
    exact ⟨fun z => q (by cases z; rfl), h⟩

/-! ### the slots -/
def sl : List (Option V) → Env → List (V × D)
  | some v :: σ, some d :: ρ => (v, d) :: sl σ ρ
  | _ :: σ, _ :: ρ => sl σ ρ
  | _, _ => []
structure Fit (c : Cn) (σ : St) (ρ : Env) : Prop where
  len : σ.length = ρ.length
  has : ∀ (i : Nat) (d : D), ρ[i]? = some (some d) → ∃ v, σ[i]? = some (some v)
  exn : ∀ (i : Nat), ρ[i]? = some (some .exn) → ∃ a, c.ea = some a ∧ σ[i]? = some (some (.ref a))
theorem sl_nil : ∀ σ : St, sl σ [] = []
  | [] => rfl
  | none :: _ => rfl
  | some _ :: _ => rfl
theorem sl_get : ∀ {σ : St} {ρ : Env} {i : Nat} {d : D} {v : V}, ρ[i]? = some (some d) → σ[i]? = some (some v) → (sl σ ρ).Perm ((v, d) :: sl σ (ρ.set i none))
  | [], _, _, _, _, _, h => by simp at h
  | _ :: _, [], _, _, _, h, _ => by simp at h
  | s :: σ, r :: ρ, 0, d, v, h, k => by
    simp at h k
    subst h k
    show ((v, d) :: sl σ ρ).Perm ((v, d) :: sl (some v :: σ) (none :: ρ))
    exact .refl _
  | s :: σ, r :: ρ, i + 1, d, v, h, k => by
    have ih := sl_get (σ := σ) (ρ := ρ) (i := i) (d := d) (v := v) (by simpa using h) (by simpa using k)
    cases s with
    | none => exact ih
    | some u =>
      cases r with
      | none => exact ih
      | some e =>
        show ((u, e) :: sl σ ρ).Perm ((v, d) :: (u, e) :: sl σ (ρ.set i none))
        exact (List.Perm.cons (u, e) ih).trans (.swap _ _ _)
theorem set_set_none (ρ : Env) (i : Nat) (d : Option D) : (ρ.set i d).set i none = ρ.set i none := by rw [List.set_set]
theorem sl_put {σ : St} {ρ : Env} {i : Nat} {d : D} {v : V} (hi : i < ρ.length) (k : σ[i]? = some (some v)) : (sl σ (ρ.set i (some d))).Perm ((v, d) :: sl σ (ρ.set i none)) := by
  have q := sl_get (ρ := ρ.set i (some d)) (List.getElem?_set_self hi) k
  rw [set_set_none] at q
  exact q
theorem sl_none : ∀ {σ : St} {ρ : Env} {i : Nat} {w : Option V}, sl (σ.set i w) (ρ.set i none) = sl σ (ρ.set i none)
  | [], _, _, _ => rfl
  | s :: σ, [], i, w => by
    show sl ((s :: σ).set i w) [] = sl (s :: σ) []
    rw [sl_nil, sl_nil]
  | s :: σ, r :: ρ, 0, w => by
    show sl (w :: σ) (none :: ρ) = sl (s :: σ) (none :: ρ)
    cases w <;> cases s <;> rfl
  | s :: σ, r :: ρ, i + 1, w => by
    have ih := sl_none (σ := σ) (ρ := ρ) (i := i) (w := w)
    show sl (s :: σ.set i w) (r :: ρ.set i none) = sl (s :: σ) (r :: ρ.set i none)
    cases s with
    | none => exact ih
    | some u =>
      cases r with
      | none => exact ih
      | some e =>
        show (u, e) :: sl (σ.set i w) (ρ.set i none) = (u, e) :: sl σ (ρ.set i none)
        rw [ih]
theorem sl_sub : ∀ {σ : St} {ρ : Env} {i : Nat}, (sl σ (ρ.set i none)).Sublist (sl σ ρ)
  | [], _, _ => .refl _
  | s :: σ, [], i => .refl _
  | s :: σ, r :: ρ, 0 => by
    cases s with
    | none => cases r <;> exact .refl _
    | some u =>
      cases r with
      | none => exact .refl _
      | some e => exact List.sublist_cons_self (u, e) (sl σ ρ)
  | s :: σ, r :: ρ, i + 1 => by
    have ih := sl_sub (σ := σ) (ρ := ρ) (i := i)
    cases s with
    | none => cases r <;> exact ih
    | some u =>
      cases r with
      | none => exact ih
      | some e => exact ih.cons_cons (u, e)
theorem sl_store {σ : St} {ρ : Env} {i : Nat} {d : D} {v : V} (hi : i < ρ.length) (l : σ.length = ρ.length) : (sl (σ.set i (some v)) (ρ.set i (some d))).Perm ((v, d) :: sl σ (ρ.set i none)) := by
  have q := sl_put (σ := σ.set i (some v)) (d := d) hi (List.getElem?_set_self (by omega))
  rw [sl_none] at q
  exact q
theorem Fit.put {c : Cn} {σ : St} {ρ : Env} {i : Nat} {d : Option D} {v : V} (f : Fit c σ ρ) (k : σ[i]? = some (some v)) (hd : d ≠ some .exn) : Fit c σ (ρ.set i d) := by
  refine ⟨by rw [List.length_set]; exact f.len, fun j e h => ?_, fun j h => ?_⟩
  · by_cases q : i = j
    · subst q; exact ⟨v, k⟩
    · rw [List.getElem?_set_ne q] at h
      exact f.has j e h
  · by_cases q : i = j
    · subst q
      by_cases hi : i < ρ.length
      · rw [List.getElem?_set_self hi] at h
        exact absurd (Option.some.inj h) hd
      · rw [List.getElem?_eq_none (by rw [List.length_set]; omega)] at h; cases h
    · rw [List.getElem?_set_ne q] at h
      exact f.exn j h
theorem Fit.none {c : Cn} {σ : St} {ρ : Env} {i : Nat} (f : Fit c σ ρ) : Fit c σ (ρ.set i Option.none) := by
  have key : ∀ (j : Nat) (e : D), (ρ.set i Option.none)[j]? = some (some e) → ρ[j]? = some (some e) := fun j e h => by
    by_cases q : i = j
    · subst q
      by_cases hi : i < ρ.length
      · rw [List.getElem?_set_self hi] at h; cases h
      · rw [List.getElem?_eq_none (by rw [List.length_set]; omega)] at h; cases h
    · rw [List.getElem?_set_ne q] at h
      exact h
  exact ⟨by rw [List.length_set]; exact f.len, fun j e h => f.has j e (key j e h), fun j h => f.exn j (key j _ h)⟩
/-- the same thing, shared -/
theorem Fit.froz {c : Cn} {σ : St} {ρ : Env} {i : Nat} {d : D} (f : Fit c σ ρ) (e : ρ[i]? = some (some d)) : Fit c σ (ρ.set i (some (fz d))) := by
  have hi : i < ρ.length := (List.getElem?_eq_some_iff.mp e).1
  refine ⟨by rw [List.length_set]; exact f.len, fun j e' h => ?_, fun j h => ?_⟩
  · by_cases q : i = j
    · subst q; exact f.has i d e
    · rw [List.getElem?_set_ne q] at h
      exact f.has j e' h
  · by_cases q : i = j
    · subst q
      rw [List.getElem?_set_self hi] at h
      have e2 : fz d = .exn := Option.some.inj (Option.some.inj h)
      have e3 : isx d = true := by rw [← isx_fz, e2]; rfl
      exact f.exn i (by rw [e, isx_eq e3])
    · rw [List.getElem?_set_ne q] at h
      exact f.exn j h
theorem Fit.store {c : Cn} {σ : St} {ρ : Env} {i : Nat} {d : Option D} {v : V} (f : Fit c σ ρ) (hi : i < ρ.length) (hd : d ≠ some .exn) : Fit c (σ.set i (some v)) (ρ.set i d) := by
  refine ⟨by rw [List.length_set, List.length_set]; exact f.len, fun j e h => ?_, fun j h => ?_⟩
  · by_cases q : i = j
    · subst q
      exact ⟨v, List.getElem?_set_self (by rw [f.len]; exact hi)⟩
    · rw [List.getElem?_set_ne q] at h ⊢
      exact f.has j e h
  · by_cases q : i = j
    · subst q
      rw [List.getElem?_set_self hi] at h
      exact absurd (Option.some.inj h) hd
    · rw [List.getElem?_set_ne q] at h ⊢
      exact f.exn j h

/-! ### what is wanted behind -/
/-- an exception of ours: its class, its own dict -/
def ExnAt (c : Cn) (H : Hp) (x : Exn) (cls : Value) (dd : Option Addr) (L : List (V × D)) : Prop :=
  ∃ C d fvs, cls = .ref C ∧ c.cls x.cls = some C ∧ dd = some d ∧ H d = some (.xd (x.fs.zip fvs)) ∧ fvs.length = x.xs.length ∧ x.fs.length = x.xs.length ∧ Good c H [] (fvs.zip x.xs ++ L)
theorem ExnAt.sub {c : Cn} {H : Hp} {x : Exn} {cls : Value} {dd : Option Addr} {L L' : List (V × D)} (h : ExnAt c H x cls dd L) (s : L'.Sublist L) : ExnAt c H x cls dd L' := by
  obtain ⟨C, d, fvs, e1, e2, e3, e4, e5, e6, g⟩ := h
  exact ⟨C, d, fvs, e1, e2, e3, e4, e5, e6, g.sub (List.Sublist.append (.refl _) s)⟩
abbrev XW := L2.St → XK
def XPost (c : Cn) (EX : XW) (T : List (V × D)) (σ : St) (x : Exn) (ρ : Env) : Prop :=
  ∀ cls dd H, Fit c σ ρ → ExnAt c H x cls dd (T ++ sl σ ρ) → EX σ cls dd H
theorem XPost.more {c : Cn} {EX : XW} {T : List (V × D)} {σ : St} {x : Exn} {ρ : Env} {p : V × D} (h : XPost c EX T σ x ρ) : XPost c EX (p :: T) σ x ρ :=
  fun cls dd H f a => h cls dd H f (a.sub (List.sublist_cons_self _ _))
theorem XPost.sub {c : Cn} {EX : XW} {T T' : List (V × D)} {σ : St} {x : Exn} {ρ : Env} (h : XPost c EX T σ x ρ) (s : T.Sublist T') : XPost c EX T' σ x ρ :=
  fun cls dd H f a => h cls dd H f (a.sub (List.Sublist.append s (.refl _)))
/-- an expression's reading keeps to f -/
def TOk (c : Cn) (EX : XW) (t : TE) (f : M D) : Prop := ∀ (H : Hp) (σ : St) (ρ : Env) (T : List (V × D)) (Q : VK), Fit c σ ρ → Good c H [] (T ++ sl σ ρ) →
  OPost (fun d ρ' => ∀ v H', Fit c σ ρ' → Good c H' [] ((v, d) :: (T ++ sl σ ρ')) → Q v H') (XPost c EX T σ) (f ρ) → t σ H Q
/-- a test's -/
def TtOk (c : Cn) (EX : XW) (t : TT) (f : M Bool) : Prop := ∀ (H : Hp) (σ : St) (ρ : Env) (T : List (V × D)) (Q : Bool → Hp → Prop), Fit c σ ρ → Good c H [] (T ++ sl σ ρ) →
  OPost (fun b ρ' => ∀ H', Fit c σ ρ' → Good c H' [] (T ++ sl σ ρ') → Q b H') (XPost c EX T σ) (f ρ) → t σ H Q

section
variable {c : Cn} {EX : XW}
/-! ### names and constants -/
theorem TOk.cI {i : Int} : TOk c EX (tC (.int i)) (pure (.int i)) := fun H σ ρ T Q f g h => h _ H f (g.addI i)
theorem TOk.cS {i : Str} : TOk c EX (tC (.str i)) (pure (.str i)) := fun H σ ρ T Q f g h => h _ H f (g.addS i)
theorem TOk.cB {i : Bool} : TOk c EX (tC (.bl i)) (pure (.bl i)) := fun H σ ρ T Q f g h => h _ H f (g.addB i)
theorem TOk.cN : TOk c EX (tC .non) (pure .non) := fun H σ ρ T Q f g h => h _ H f g.addN
theorem TOk.cV {v : V} : TOk c EX (tC v) (pure (.val v)) := fun H σ ρ T Q f g h => h _ H f (g.addV v)
/-- the good of a slot -/
theorem slot_out {c : Cn} {H : Hp} {R : List Addr} {T : List (V × D)} {σ : St} {ρ : Env} {i : Nat} {d : D} {v : V} (g : Good c H R (T ++ sl σ ρ)) (h : ρ[i]? = some (some d)) (k : σ[i]? = some (some v)) : Good c H R ((v, d) :: (T ++ sl σ (ρ.set i none))) :=
  (g.perm (List.Perm.append_left T (sl_get h k))).perm List.perm_middle
theorem slot_in {c : Cn} {H : Hp} {R : List Addr} {T : List (V × D)} {σ : St} {ρ : Env} {i : Nat} {d : D} {v : V} (g : Good c H R ((v, d) :: (T ++ sl σ (ρ.set i none)))) (hi : i < ρ.length) (k : σ[i]? = some (some v)) : Good c H R (T ++ sl σ (ρ.set i (some d))) :=
  (g.perm List.perm_middle.symm).perm (List.Perm.append_left T (sl_put hi k).symm)
theorem ltE {α : Type} {l : List α} {i : Nat} {a : α} (h : l[i]? = some a) : i < l.length := (List.getElem?_eq_some_iff.mp h).1
theorem TOk.rd {i : Nat} : TOk c EX (tVar i) (rdv i) := fun H σ ρ T Q f g h => by
  unfold rdv at h
  obtain ⟨d, e, h⟩ := peek_post.mp (bind_post.mp h)
  have h := bind_post.mp h
  rw [setv_post] at h
  obtain ⟨v, k⟩ := f.has i d e
  refine ⟨v, k, h v H (f.froz e) ?_⟩
  have g1 := (slot_out g e k).dup
  exact slot_in (T := (v, fz d) :: T) (g1.perm (.refl _)) (ltE e) k
theorem TOk.mv {i : Nat} : TOk c EX (tVar i) (mvv i) := fun H σ ρ T Q f g h => by
  unfold mvv at h
  obtain ⟨d, e, h⟩ := peek_post.mp (bind_post.mp h)
  have h := bind_post.mp h
  rw [setv_post] at h
  obtain ⟨v, k⟩ := f.has i d e
  exact ⟨v, k, h v H f.none (slot_out g e k)⟩

/-! ### operands: a piece that is reckoned, or a name that is looked at and stays -/
inductive Opn where
  | tmp (f : M D)
  | slot (i : Nat)
def OpnOk (c : Cn) (EX : XW) (t : TE) : Opn → Prop
  | .tmp f => TOk c EX t f
  | .slot i => t = tVar i
theorem opS (i : Nat) : OpnOk c EX (tVar i) (.slot i) := rfl
theorem opT {t : TE} {f : M D} (h : TOk c EX t f) : OpnOk c EX t (.tmp f) := h
/-- by values: one thing in, a thing out, the first one as it is left -/
def G1 (c : Cn) (r : V → Hp → VK → Prop) (g : D → Option (D × D)) : Prop := ∀ (H : Hp) (x : V) (a : D) (T : List (V × D)) (Q : VK) (d a' : D), g a = some (d, a') → Good c H [] ((x, a) :: T) →
  (∀ v H', Good c H' [] ((v, d) :: (x, a') :: T) → Q v H') → r x H Q
def G2 (c : Cn) (r : R2) (g : D → D → Option (D × D × D)) : Prop := ∀ (H : Hp) (x y : V) (a b : D) (T : List (V × D)) (Q : VK) (d a' b' : D), g a b = some (d, a', b') → Good c H [] ((y, b) :: (x, a) :: T) →
  (∀ v H', Good c H' [] ((v, d) :: (y, b') :: (x, a') :: T) → Q v H') → r x y H Q
def ev1 (o : Opn) (g : D → Option (D × D)) : M D := match o with
  | .tmp f => do
    let a ← f
    let p ← optM (g a)
    pure p.1
  | .slot i => do
    let a ← peek i
    let p ← optM (g a)
    setq i p.2
    pure p.1
def ev2 (o1 o2 : Opn) (g : D → D → Option (D × D × D)) : M D := match o1, o2 with
  | .tmp f, .tmp h => do
    let a ← f
    let b ← h
    let p ← optM (g a b)
    pure p.1
  | .slot i, .tmp h => do
    let _ ← peek i
    let b ← h
    let a ← peek i
    let p ← optM (g a b)
    setq i p.2.1
    pure p.1
  | .tmp f, .slot j => do
    let a ← f
    let b ← peek j
    let p ← optM (g a b)
    setq j p.2.2
    pure p.1
  | .slot i, .slot j => do
    let a ← peek i
    let b ← peek j
    if i = j then badM else do
      let p ← optM (g a b)
      setq i p.2.1
      setq j p.2.2
      pure p.1
theorem TOk.op1 {t : TE} {r : V → Hp → VK → Prop} {o : Opn} {g : D → Option (D × D)} (h1 : OpnOk c EX t o) (hr : G1 c r g) : TOk c EX (fun σ H Q => t σ H fun x H1 => r x H1 Q) (ev1 o g) := fun H σ ρ T Q f gd h => by
  cases o with
  | tmp m =>
    refine h1 H σ ρ T _ f gd ((bind_post.mp h).imp (fun a ρ1 h2 v H1 f1 g1 => ?_) fun _ _ q => q)
    obtain ⟨p, e, h3⟩ := opt_post.mp (bind_post.mp h2)
    exact hr H1 v a _ Q p.1 p.2 e g1 fun u H2 g2 => h3 u H2 f1 g2.drop1
  | slot i =>
    subst h1
    obtain ⟨a, e, h2⟩ := peek_post.mp (bind_post.mp h)
    obtain ⟨p, e2, h3⟩ := opt_post.mp (bind_post.mp h2)
    have ⟨hd, h4⟩ := setq_post (bind_post.mp h3)
    obtain ⟨v, k⟩ := f.has i a e
    exact ⟨v, k, hr H v a _ Q p.1 p.2 e2 (slot_out gd e k) fun u H2 g2 => h4 u H2 (f.put k hd) (slot_in (T := (u, p.1) :: T) g2.swap (ltE e) k)⟩
theorem TOk.op2 {ta tb : TE} {r : R2} {o1 o2 : Opn} {g : D → D → Option (D × D × D)} (h1 : OpnOk c EX ta o1) (h2 : OpnOk c EX tb o2) (hr : G2 c r g) : TOk c EX (tOp r ta tb) (ev2 o1 o2 g) := fun H σ ρ T Q f gd h => by
  cases o1 with
  | tmp m =>
    cases o2 with
    | tmp m2 =>
      refine h1 H σ ρ T _ f gd ((bind_post.mp h).imp (fun a ρ1 h3 v H1 f1 g1 => ?_) fun _ _ q => q)
      refine h2 H1 σ ρ1 ((v, a) :: T) _ f1 g1 ((bind_post.mp h3).imp (fun b ρ2 h4 u H2 f2 g2 => ?_) fun _ _ q => q.more)
      obtain ⟨p, e, h5⟩ := opt_post.mp (bind_post.mp h4)
      exact hr H2 v u a b _ Q p.1 p.2.1 p.2.2 e g2 fun z H3 g3 => h5 z H3 f2 g3.drop1.drop1
    | slot j =>
      refine h1 H σ ρ T _ f gd ((bind_post.mp h).imp (fun a ρ1 h3 v H1 f1 g1 => ?_) fun _ _ q => q)
      cases h2
      obtain ⟨b, e, h4⟩ := peek_post.mp (bind_post.mp h3)
      obtain ⟨p, e2, h5⟩ := opt_post.mp (bind_post.mp h4)
      have ⟨hd, h6⟩ := setq_post (bind_post.mp h5)
      obtain ⟨u, k⟩ := f1.has j b e
      exact ⟨u, k, hr H1 v u a b _ Q p.1 p.2.1 p.2.2 e2 (slot_out (T := (v, a) :: T) g1 e k) fun z H3 g3 => h6 z H3 (f1.put k hd) (slot_in (T := (z, p.1) :: T) (g3.sub (((List.sublist_cons_self _ _).cons_cons _).cons_cons _)).swap (ltE e) k)⟩
  | slot i =>
    cases h1
    cases o2 with
    | tmp m2 =>
      obtain ⟨a0, e0, h3⟩ := peek_post.mp (bind_post.mp h)
      obtain ⟨v, k⟩ := f.has i a0 e0
      refine ⟨v, k, ?_⟩
      refine h2 H σ ρ T _ f gd ((bind_post.mp h3).imp (fun b ρ2 h4 u H2 f2 g2 => ?_) fun _ _ q => q)
      obtain ⟨a, e, h5⟩ := peek_post.mp (bind_post.mp h4)
      obtain ⟨p, e2, h6⟩ := opt_post.mp (bind_post.mp h5)
      have ⟨hd, h7⟩ := setq_post (bind_post.mp h6)
      exact hr H2 v u a b _ Q p.1 p.2.1 p.2.2 e2 (slot_out (T := (u, b) :: T) g2 e k).swap fun z H3 g3 => h7 z H3 (f2.put k hd) (slot_in (T := (z, p.1) :: T) g3.drop1.swap (ltE e) k)
    | slot j =>
      cases h2
      obtain ⟨a, e, h3⟩ := peek_post.mp (bind_post.mp h)
      obtain ⟨b, e2, h4⟩ := peek_post.mp (bind_post.mp h3)
      by_cases q : i = j
      · rw [if_pos q] at h4
        exact h4.elim
      · rw [if_neg q] at h4
        obtain ⟨p, e3, h5⟩ := opt_post.mp (bind_post.mp h4)
        have ⟨hd, h6⟩ := setq_post (bind_post.mp h5)
        have ⟨hd2, h7⟩ := setq_post (bind_post.mp h6)
        obtain ⟨v, k⟩ := f.has i a e
        obtain ⟨u, k2⟩ := f.has j b e2
        refine ⟨v, k, u, k2, ?_⟩
        have g1 := slot_out gd e k
        have e2' : (ρ.set i none)[j]? = some (some b) := by rw [List.getElem?_set_ne q]; exact e2
        have g2 := slot_out (T := (v, a) :: T) g1 e2' k2
        refine hr H v u a b _ Q p.1 p.2.1 p.2.2 e3 g2 fun z H3 g3 => h7 z H3 ((f.put k hd).put k2 hd2) ?_
        have g4 : Good c H3 [] ((u, p.2.2) :: ((v, p.2.1) :: (z, p.1) :: T ++ sl σ ((ρ.set i none).set j none))) := by
          refine g3.perm ?_
          show ((z, p.1) :: (u, p.2.2) :: (v, p.2.1) :: (T ++ sl σ ((ρ.set i none).set j none))).Perm ((u, p.2.2) :: (v, p.2.1) :: (z, p.1) :: (T ++ sl σ ((ρ.set i none).set j none)))
          exact (List.Perm.swap _ _ _).trans (List.Perm.cons _ (List.Perm.swap _ _ _))
        have g5 := slot_in g4 (by rw [List.length_set]; exact ltE e2) k2
        have g6 : Good c H3 [] ((v, p.2.1) :: ((z, p.1) :: T ++ sl σ ((ρ.set j (some p.2.2)).set i none))) := by
          rw [List.set_comm _ _ (Ne.symm q)]
          exact g5
        have g7 := slot_in g6 (by rw [List.length_set]; exact ltE e) k
        rw [List.set_comm _ _ q]
        exact g7
end
end Mir
end
section
set_option Elab.async false
set_option linter.all false
set_option maxRecDepth 100000
set_option maxHeartbeats 2000000
/-! Mir2: operators, built-ins, methods as functions of data. -/
namespace Mir
open PySem PySem.Spec PyProof.Rows L2

section
variable {c : Cn} {H : Hp} {R : List Addr} {L T : List (V × D)} {v x y : V} {d a b : D}
theorem upd_self' {H : Hp} {a : Addr} {o : HO} (h : H a = some o) : upd H a o = H := by
  funext z
  unfold upd
  by_cases e : z = a
  · subst e; rw [if_pos rfl, h]
  · rw [if_neg e]
/-- an own list is put together again -/
theorem Good.shutL {ds : List D} {vs : List V} {p : Addr} (g : Good c H (p :: R) (vs.zip ds ++ L)) (hl : vs.length = ds.length) (h : H p = some (.lst vs)) : Good c H R ((.ref p, .lst true ds) :: L) := by
  have q := g.closeL hl (.inr (by rw [h]; trivial))
  rw [upd_self' h] at q
  exact q
mutual
theorem Rep.shared {Z : Addr → Prop} : ∀ (d : D) (v : V), Rep c Z H d v [] → fz d = d
  | .non, _, _ => rfl
  | .bl _, _, _ => rfl
  | .int _, _, _ => rfl
  | .str _, _, _ => rfl
  | .val _, _, _ => rfl
  | .seq _, _, _ => rfl
  | .lst o xs, v, h => by
    simp only [Rep] at h
    obtain ⟨a, vs, f, e, r, q⟩ := h
    cases o with
    | true =>
      simp only [if_true] at q
      exact nomatch q.2
    | false =>
      simp only [Bool.false_eq_true, if_false] at q
      obtain ⟨q1, q2, q3, q4⟩ := q
      subst q3
      simp only [fz, RepL.shared xs vs r]
  | .tup xs, v, h => by
    simp only [Rep] at h
    obtain ⟨a, vs, e, r, q⟩ := h
    simp only [fz, RepL.shared xs vs r]
  | .dic o ks xs, v, h => by
    simp only [Rep] at h
    obtain ⟨a, vs, f, e, r, l, q⟩ := h
    cases o with
    | true =>
      simp only [if_true] at q
      exact nomatch q.2
    | false =>
      simp only [Bool.false_eq_true, if_false] at q
      obtain ⟨q1, q2, q3, q4⟩ := q
      subst q3
      simp only [fz, RepL.shared xs vs r]
  | .exn, _, _ => rfl
  | .ins o C fs xs, v, h => by
    simp only [Rep] at h
    obtain ⟨a, vs, f, e, r, l, A, dx, ec, q1, q⟩ := h
    cases o with
    | true =>
      simp only [if_true] at q
      exact nomatch q
    | false =>
      simp only [Bool.false_eq_true, if_false] at q
      obtain ⟨q2, q3, q4⟩ := q
      subst q3
      simp only [fz, RepL.shared xs vs r]
theorem RepL.shared {Z : Addr → Prop} : ∀ (ds : List D) (vs : List V), RepL c Z H ds vs [] → fzL ds = ds
  | [], _, _ => rfl
  | d :: ds, vs, h => by
    simp only [RepL] at h
    obtain ⟨v, r, f, g, e, h1, h2, e2⟩ := h
    obtain ⟨rfl, rfl⟩ := List.append_eq_nil_iff.mp e2.symm
    simp only [fzL, Rep.shared d v h1, RepL.shared ds r h2]
end
theorem Good.shared {ds : List D} (g : Good c H R ((v, .lst false ds) :: L)) : fzL ds = ds := by
  obtain ⟨Z, f, h⟩ := g.head
  simp only [Rep, Bool.false_eq_true, if_false] at h
  obtain ⟨a, vs, f', ev, r, q1, q2, q3, q4⟩ := h
  subst q3
  exact RepL.shared ds vs r
theorem fzL_at {ds : List D} {k : Nat} {d : D} (h : ds[k]? = some d) : (fzL ds)[k]? = some (fz d) := by
  rw [fzL_map, List.getElem?_map, h]
  rfl
/-- a thing of a list -/
theorem Good.ixL {o : Bool} {ds : List D} {k : Nat} (g : Good c H R ((v, .lst o ds) :: L)) (h : ds[k]? = some d) :
    ∃ p vs z, v = .ref p ∧ Rd H p (.lst vs) ∧ vs.length = ds.length ∧ vs[k]? = some z ∧ Good c H R ((z, fz d) :: (v, .lst o (ds.set k (fz d))) :: L) := by
  cases o with
  | true =>
    obtain ⟨p, vs, e, hp, hl, g1⟩ := g.openL
    obtain ⟨z, hz⟩ := get_of_len hl h
    refine ⟨p, vs, z, e, .of hp, hl, hz, ?_⟩
    have g2 := (g1.at hz h).perm (List.perm_middle (a := (z, fz d)) (l₁ := vs.zip (ds.set k (fz d))) (l₂ := L)).symm
    have g3 := g2.shutL (by rw [List.length_set]; exact hl) hp
    rw [e]
    exact g3.swap
  | false =>
    have sh := g.shared
    have ed : fz d = d := by
      have q := fzL_at h
      rw [sh, h] at q
      exact (Option.some.inj q).symm
    have g0 := g.dup
    simp only [fz, sh] at g0
    obtain ⟨p, vs, e, hp, hl, g1⟩ := g0.readL
    obtain ⟨z, hz⟩ := get_of_len hl h
    refine ⟨p, vs, z, e, hp, hl, hz, ?_⟩
    have es : ds.set k (fz d) = ds := by
      rw [ed]
      refine List.ext_getElem? fun i => ?_
      by_cases q : k = i
      · subst q; rw [List.getElem?_set_self (ltE h), h]
      · rw [List.getElem?_set_ne q]
    have g2 := g1.at hz h
    rw [es] at g2 ⊢
    refine g2.sub (List.Sublist.cons_cons _ ?_)
    exact (List.sublist_cons_self _ _).trans (List.sublist_append_right _ _)
/-- a thing of a tuple -/
theorem Good.ixT {ds : List D} {k : Nat} (g : Good c H R ((v, .tup ds) :: L)) (h : ds[k]? = some d) :
    ∃ p vs z, v = .ref p ∧ SqT c.K H p vs ∧ vs.length = ds.length ∧ vs[k]? = some z ∧ Good c H R ((z, fz d) :: (v, .tup (ds.set k (fz d))) :: L) := by
  obtain ⟨p, vs, e, hp, hl, g1⟩ := g.openT
  obtain ⟨z, hz⟩ := get_of_len hl h
  refine ⟨p, vs, z, e, hp, hl, hz, ?_⟩
  have g2 := (g1.at hz h).perm (List.perm_middle (a := (z, fz d)) (l₁ := vs.zip (ds.set k (fz d))) (l₂ := L)).symm
  have g3 := g2.closeT (by rw [List.length_set]; exact hl) hp
  rw [e]
  exact g3.swap
/-- a list is there to be read -/
theorem Good.lst {o : Bool} {ds : List D} (g : Good c H R ((v, .lst o ds) :: L)) : ∃ Z p vs f, v = .ref p ∧ Rd H p (.lst vs) ∧ vs.length = ds.length ∧ RepL c Z H ds vs f := by
  obtain ⟨Z, f, h⟩ := g.head
  simp only [Rep] at h
  obtain ⟨a, vs, f', e, r, q⟩ := h
  cases o with
  | true =>
    simp only [if_true] at q
    exact ⟨Z, a, vs, f', e, .of q.1, RepL.len _ _ _ r, r⟩
  | false =>
    simp only [Bool.false_eq_true, if_false] at q
    exact ⟨Z, a, vs, f', e, q.1, RepL.len _ _ _ r, r⟩
theorem Good.tup {ds : List D} (g : Good c H R ((v, .tup ds) :: L)) : ∃ Z p vs f, v = .ref p ∧ SqT c.K H p vs ∧ vs.length = ds.length ∧ RepL c Z H ds vs f := by
  obtain ⟨Z, f, h⟩ := g.head
  simp only [Rep] at h
  obtain ⟨a, vs, e, r, q⟩ := h
  exact ⟨Z, a, vs, _, e, q, RepL.len _ _ _ r, r⟩
theorem Rd.sqL {K : PySem.W.Frag} {p : Addr} {vs : List V} (h : Rd H p (.lst vs)) : SqL K H p vs := .inl h
end

/-! ### whole numbers -/
def iop (C : Int → Int → Bool) (g : Int → Int → Int) : D → D → Option (D × D × D)
  | .int i, .int j => if C i j = true then some (.int (g i j), .int i, .int j) else none
  | _, _ => none
def icmp (p : Int → Int → Bool) : D → D → Option (D × D × D)
  | .int i, .int j => some (.bl (p i j), .int i, .int j)
  | _, _ => none
theorem iop_some {C : Int → Int → Bool} {g : Int → Int → Int} {a b : D} {p : D × D × D} (h : iop C g a b = some p) : ∃ i j, a = .int i ∧ b = .int j ∧ C i j = true ∧ p = (.int (g i j), .int i, .int j) := by
  unfold iop at h
  split at h
  · split at h
    · rename_i q
      exact ⟨_, _, rfl, rfl, q, (Option.some.inj h).symm⟩
    · cases h
  · cases h
theorem icmp_some {q : Int → Int → Bool} {a b : D} {p : D × D × D} (h : icmp q a b = some p) : ∃ i j, a = .int i ∧ b = .int j ∧ p = (.bl (q i j), .int i, .int j) := by
  unfold icmp at h
  split at h
  · exact ⟨_, _, rfl, rfl, (Option.some.inj h).symm⟩
  · cases h
section
variable {c : Cn}
theorem G2.int {C : Int → Int → Prop} {B : Int → Int → Bool} {g : Int → Int → Int} (h : ∀ i j, B i j = true → C i j) : G2 c (rI C fun i j => .int (g i j)) (iop B g) := by
  intro H x y a b T Q d a' b' e gd k
  obtain ⟨i, j, rfl, rfl, hc, ep⟩ := iop_some e
  cases ep
  exact ⟨i, j, gd.tail.isI, gd.isI, h i j hc, k _ H (gd.addI _)⟩
theorem G2.int0 {g : Int → Int → Int} : G2 c (rI0 fun i j => .int (g i j)) (iop (fun _ _ => true) g) := by
  intro H x y a b T Q d a' b' e gd k
  obtain ⟨i, j, rfl, rfl, hc, ep⟩ := iop_some e
  cases ep
  exact ⟨i, j, gd.tail.isI, gd.isI, k _ H (gd.addI _)⟩
theorem G2.cmp {g : Int → Int → Bool} : G2 c (rI0 fun i j => .bl (g i j)) (icmp g) := by
  intro H x y a b T Q d a' b' e gd k
  obtain ⟨i, j, rfl, rfl, ep⟩ := icmp_some e
  cases ep
  exact ⟨i, j, gd.tail.isI, gd.isI, k _ H (gd.addB _)⟩
/-- one rule or another -/
theorem G2.or {r r' : R2} {g g' : D → D → Option (D × D × D)} (h : G2 c r g) (h' : G2 c r' g') : G2 c (fun x y H Q => r x y H Q ∨ r' x y H Q) (fun a b => match g a b with | some p => some p | none => g' a b) := by
  intro H x y a b T Q d a' b' e gd k
  cases q : g a b with
  | some p =>
    simp only [q] at e
    cases e
    exact .inl (h H x y a b T Q d a' b' q gd k)
  | none =>
    simp only [q] at e
    exact .inr (h' H x y a b T Q d a' b' e gd k)
theorem G1.or {r r' : V → Hp → VK → Prop} {g g' : D → Option (D × D)} (h : G1 c r g) (h' : G1 c r' g') : G1 c (fun x H Q => r x H Q ∨ r' x H Q) (fun a => match g a with | some p => some p | none => g' a) := by
  intro H x a T Q d a' e gd k
  cases q : g a with
  | some p =>
    simp only [q] at e
    cases e
    exact .inl (h H x a T Q d a' q gd k)
  | none =>
    simp only [q] at e
    exact .inr (h' H x a T Q d a' e gd k)
end
def mulB (i j : Int) : Bool := decide (-(2 ^ 64) < i ∧ i < 2 ^ 64) || decide (-(2 ^ 64) < j ∧ j < 2 ^ 64) || decide (i.natAbs.log2 + j.natAbs.log2 < 1000000)
def divB (_ j : Int) : Bool := decide (0 < j) && decide (j.natAbs.log2 < 9000)
def modB (_ j : Int) : Bool := decide (0 < j)
def powB (i j : Int) : Bool := decide (0 ≤ j) && decide (j ≤ 1000000) && decide (i.natAbs < 2 ^ 64)
def shrB (_ j : Int) : Bool := decide (0 ≤ j)
def oAdd := iop (fun _ _ => true) fun i j => i + j
def oSub := iop (fun _ _ => true) fun i j => i - j
def oMul := iop mulB fun i j => i * j
def oDiv := iop divB fun i j => i / j
def oMod := iop modB fun i j => i % j
def oPow := iop powB fun i j => i ^ j.toNat
def oShl := iop powB fun i j => i * 2 ^ j.toNat
def oShr := iop shrB fun i j => i / 2 ^ j.toNat
def oAnd := iop (fun _ _ => true) Builtin.bitAnd
def oOr := iop (fun _ _ => true) Builtin.bitOr
def oXor := iop (fun _ _ => true) Builtin.bitXor
def oLt := icmp fun i j => decide (i < j)
def oLe := icmp fun i j => decide (i ≤ j)
def oGt := icmp fun i j => decide (j < i)
def oGe := icmp fun i j => decide (j ≤ i)
section
variable {X : Cx} {c : Cn}
theorem op_mulA : OpR X (binaryOp .Mult) (rI (fun i j => mulB i j = true) fun i j => .int (i * j)) := opI fun i j _ _ _ _ _ hc q => mul_int q (by
  unfold mulB at hc
  simp only [Bool.or_eq_true, decide_eq_true_eq] at hc
  rcases hc with (h | h) | h
  · exact CMul.ok (.inl h)
  · exact CMul.ok (.inr h)
  · exact CMulW.ok h)
theorem g_add : G2 c (rI0 fun i j => .int (i + j)) oAdd := G2.int0
theorem g_sub : G2 c (rI0 fun i j => .int (i - j)) oSub := G2.int0
theorem g_mul : G2 c (rI (fun i j => mulB i j = true) fun i j => .int (i * j)) oMul := G2.int fun _ _ h => h
theorem g_div : G2 c (rI CDivW fun i j => .int (i / j)) oDiv := G2.int fun i j h => by
  unfold divB at h
  simp only [Bool.and_eq_true, decide_eq_true_eq] at h
  exact h
theorem g_mod : G2 c (rI (fun _ j => 0 < j) fun i j => .int (i % j)) oMod := G2.int fun i j h => of_decide_eq_true h
theorem g_pow : G2 c (rI CPow fun i j => .int (i ^ j.toNat)) oPow := G2.int fun i j h => by
  unfold powB at h
  simp only [Bool.and_eq_true, decide_eq_true_eq] at h
  exact ⟨h.1.1, h.1.2, h.2⟩
theorem g_shl : G2 c (rI CPow fun i j => .int (i * 2 ^ j.toNat)) oShl := G2.int fun i j h => by
  unfold powB at h
  simp only [Bool.and_eq_true, decide_eq_true_eq] at h
  exact ⟨h.1.1, h.1.2, h.2⟩
theorem g_shr : G2 c (rI (fun _ j => 0 ≤ j) fun i j => .int (i / 2 ^ j.toNat)) oShr := G2.int fun i j h => of_decide_eq_true h
theorem g_and : G2 c (rI0 fun i j => .int (Builtin.bitAnd i j)) oAnd := G2.int0
theorem g_or : G2 c (rI0 fun i j => .int (Builtin.bitOr i j)) oOr := G2.int0
theorem g_xor : G2 c (rI0 fun i j => .int (Builtin.bitXor i j)) oXor := G2.int0
theorem g_lt : G2 c (rI0 fun i j => .bl (decide (i < j))) oLt := G2.cmp
theorem g_le : G2 c (rI0 fun i j => .bl (decide (i ≤ j))) oLe := G2.cmp
theorem g_gt : G2 c (rI0 fun i j => .bl (decide (j < i))) oGt := G2.cmp
theorem g_ge : G2 c (rI0 fun i j => .bl (decide (j ≤ i))) oGe := G2.cmp
end

/-! ### texts, lists put together -/
def oCatS : D → D → Option (D × D × D)
  | .str i, .str j => if i.length + j.length ≤ sizeLine then some (.str (i ++ j), .str i, .str j) else none
  | _, _ => none
/-- the things of both, shared -/
def oCatL : D → D → Option (D × D × D)
  | .lst o xs, .lst u ys => if xs.length + ys.length ≤ sizeLine then some (.lst true (fzL xs ++ fzL ys), .lst o (fzL xs), .lst u (fzL ys)) else none
  | _, _ => none
def rCatS : R2 := fun x y H Q => ∃ i j, x = .str i ∧ y = .str j ∧ i.length + j.length ≤ sizeLine ∧ Q (.str (i ++ j)) H
def rCatR : R2 := fun x y H Q => ∃ l b xs zs, x = .ref l ∧ y = .ref b ∧ Rd H l (.lst xs) ∧ Rd H b (.lst zs) ∧ xs.length + zs.length ≤ sizeLine ∧ ∀ p, H p = none → Q (.ref p) (upd H p (.lst (xs ++ zs)))
section
variable {X : Cx} {c : Cn}
theorem lstR {pins : List (Addr × Obj)} {σ : L2.St} {H : Hp} {s : Shared} {l : Addr} {xs : List V} (I : Inv X pins σ H s) (h : Rd H l (.lst xs)) :
    xs.length ≤ sizeLine ∧ ∃ (its : List Value) (n : Nat), Vals xs its ∧ xs.length = its.length ∧ s.heap.get? l = some { cls := .type "list", data := .seq its.toArray n } := by
  obtain ⟨z, its, n, r, e⟩ := h.ok I.hok
  exact ⟨z, its, n, r, r.length, e⟩
theorem op_catR : OpR X (binaryOp .Add) rCatR := by
  intro pins s σ H x y v u Q I rx ry h
  obtain ⟨l, b, xs, zs, rfl, rfl, hH, hB, hz, q⟩ := h
  cases rx
  cases ry
  obtain ⟨z, its, n, r, hl, e⟩ := lstR I hH
  obtain ⟨z2, its2, n2, r2, hl2, e2⟩ := lstR I hB
  refine PySem.P.add_list e e2 ?_ (by rw [List.size_toArray, List.size_toArray]; omega)
  have ea : its.toArray ++ its2.toArray = (its ++ its2).toArray := by simp
  rw [ea]
  exact ⟨.ref _, _, I.lnew (t' := s.toks) (r.append r2) (by rw [List.length_append]; omega), rfl, q _ I.fresh⟩
theorem g_catS : G2 c rCatS oCatS := by
  intro H x y a b T Q d a' b' e gd k
  unfold oCatS at e
  split at e
  · split at e
    · rename_i i j q
      cases e
      exact ⟨i, j, gd.tail.isS, gd.isS, q, k _ H (gd.addS _)⟩
    · cases e
  · cases e
/-- the things of a list, shared, beside it -/
theorem Good.parts {c : Cn} {H : Hp} {R : List Addr} {L : List (V × D)} {v : V} {o : Bool} {ds : List D} (g : Good c H R ((v, .lst o ds) :: L)) :
    ∃ p vs, v = .ref p ∧ Rd H p (.lst vs) ∧ vs.length = ds.length ∧ Good c H R (vs.zip (fzL ds) ++ (v, .lst o (fzL ds)) :: L) := by
  cases o with
  | true =>
    obtain ⟨p, vs, e, hp, hl, Z, fp, h, nd, nz, zt⟩ := g.openL
    obtain ⟨f, f2, h1, h2, e2⟩ := RepA.split _ _ _ h
    subst e2
    have h1' := RepA.toL _ _ _ hl h1
    have nd' : (f ++ (f2 ++ p :: R)).Nodup := by rw [← List.append_assoc]; exact nd
    have ap := (List.nodup_append.mp nd').2.2
    have r1 : RepL c (fun a => Z a ∨ a ∈ f) H (fzL ds) vs [] := RepL.freeze (fun _ z => .inl z) ds vs f (fun a ha => .inr ha) h1'
    have r2 : RepA c (fun a => Z a ∨ a ∈ f) H L f2 := RepA.mono (fun _ z => .inl z) L f2 ⟨fun _ _ _ r => r, fun _ _ _ _ e => e, fun _ _ => rfl, fun _ _ q => q⟩ h2
    have hl' : vs.length = (fzL ds).length := by rw [fzL_len]; exact hl
    refine ⟨p, vs, e, .of hp, hl, fun a => Z a ∨ a ∈ f, [] ++ (p :: [] ++ f2), RepA.append _ _ _ _ (RepL.all _ _ _ r1) ⟨[p], f2, ?_, r2, rfl⟩, ?_, fun a ha z => ?_, fun a z => ?_, fun p hp => (zt.kp p hp).mono (fun _ z => .inl z) ⟨fun _ _ _ r => r, fun _ _ _ _ e => e, fun _ _ => rfl, fun _ _ q => q⟩⟩
    · simp only [Rep, if_true]
      exact ⟨p, vs, [], e, r1, hp, rfl⟩
    · have q : (f2 ++ p :: R).Perm (p :: (f2 ++ R)) := List.perm_middle
      exact q.nodup (List.nodup_append.mp nd').2.1
    · have q : (f2 ++ p :: R).Perm (p :: (f2 ++ R)) := List.perm_middle
      have ha' : a ∈ f2 ++ p :: R := q.symm.subset ha
      rcases z with z | z
      · exact nz a (by rw [List.append_assoc]; exact List.mem_append_right _ ha') z
      · exact ap a z a ha' rfl
    · rcases z with z | z
      · exact zt.at' a z
      · obtain ⟨o, e, _⟩ := RepL.there ds vs f h1' a z
        exact ⟨o, e⟩
  | false =>
    have sh := g.shared
    have g0 := g.dup
    simp only [fz, sh] at g0
    obtain ⟨p, vs, e, hp, hl, g1⟩ := g0.readL
    rw [sh]
    exact ⟨p, vs, e, hp, hl, g1.sub (List.Sublist.append (.refl _) (List.sublist_cons_self _ _))⟩
theorem zip_append' {vs ws : List V} {ds es : List D} (h : vs.length = ds.length) : (vs ++ ws).zip (ds ++ es) = vs.zip ds ++ ws.zip es := List.zip_append h
theorem g_catL : G2 c rCatR oCatL := by
  intro H x y a b T Q d a' b' e gd k
  unfold oCatL at e
  split at e
  · split at e
    · rename_i o xs u ys q
      cases e
      obtain ⟨p2, vs2, e2, h2, l2, g2⟩ := gd.parts
      have g3 : Good c H [] ((x, .lst o xs) :: (vs2.zip (fzL ys) ++ (y, .lst u (fzL ys)) :: T)) := g2.perm ((List.Perm.append_left _ (.swap _ _ _)).trans List.perm_middle)
      obtain ⟨p1, vs1, e1, h1, l1, g4⟩ := g3.parts
      refine ⟨p1, p2, vs1, vs2, e1, e2, h1, h2, by omega, fun p hp => k (.ref p) _ ?_⟩
      have hl : (vs1 ++ vs2).length = (fzL xs ++ fzL ys).length := by rw [List.length_append, List.length_append, fzL_len, fzL_len]; omega
      have g5 : Good c H [] ((vs1 ++ vs2).zip (fzL xs ++ fzL ys) ++ ((y, .lst u (fzL ys)) :: (x, .lst o (fzL xs)) :: T)) := by
        rw [zip_append' (by rw [fzL_len]; exact l1)]
        refine g4.perm ?_
        rw [List.append_assoc]
        refine List.Perm.append_left _ ?_
        exact (List.perm_middle.symm).trans (List.Perm.append_left _ (.swap _ _ _))
      exact g5.newL hl hp (by simp)
    · cases e
  · cases e
end

/-! ### == of data -/
mutual
def toP : D → Option PyData
  | .non => some .none
  | .bl b => some (.bool b)
  | .int i => some (.int i)
  | .str x => some (.str x)
  | .lst _ xs => (toPL xs).map .list
  | .tup xs => (toPL xs).map .tuple
  | _ => none
def toPL : List D → Option (List PyData)
  | [] => some []
  | d :: ds => match toP d, toPL ds with
    | some p, some ps => some (p :: ps)
    | _, _ => none
end
section
variable {c : Cn} {Z : Addr → Prop} {H : Hp}
mutual
theorem Rep.dp : ∀ (d : D) (v : V) (f : List Addr) (p : PyData), toP d = some p → Rep c Z H d v f → Dp c.K H v p
  | .non, v, f, p, e, h => by
    cases e
    rw [h.1]
    exact .non
  | .bl b, v, f, p, e, h => by
    cases e
    rw [h.1]
    exact .bl b
  | .int i, v, f, p, e, h => by
    cases e
    rw [h.1]
    exact .int i
  | .str x, v, f, p, e, h => by
    cases e
    rw [h.1]
    exact .str x
  | .val _, _, _, _, e, _ => nomatch e
  | .seq _, _, _, _, e, _ => nomatch e
  | .dic _ _ _, _, _, _, e, _ => nomatch e
  | .ins _ _ _ _, _, _, _, e, _ => nomatch e
  | .lst o xs, v, f, p, e, h => by
    simp only [toP] at e
    simp only [Rep] at h
    obtain ⟨a, vs, f', ev, r, q⟩ := h
    cases q2 : toPL xs with
    | none => rw [q2] at e; cases e
    | some ps =>
      rw [q2] at e
      cases e
      rw [ev]
      have hr : Rd H a (.lst vs) := by
        cases o with
        | true =>
          simp only [if_true] at q
          exact .of q.1
        | false =>
          simp only [Bool.false_eq_true, if_false] at q
          exact q.1
      exact .lst (.inl hr) (RepL.dp xs vs f' ps q2 r)
  | .tup xs, v, f, p, e, h => by
    simp only [toP] at e
    simp only [Rep] at h
    obtain ⟨a, vs, ev, r, q⟩ := h
    cases q2 : toPL xs with
    | none => rw [q2] at e; cases e
    | some ps =>
      rw [q2] at e
      cases e
      rw [ev]
      exact .tup q (RepL.dp xs vs f ps q2 r)
theorem RepL.dp : ∀ (ds : List D) (vs : List V) (f : List Addr) (ps : List PyData), toPL ds = some ps → RepL c Z H ds vs f → DpAll c.K H vs ps
  | [], vs, f, ps, e, h => by
    cases e
    have e1 : vs = [] := h.1
    rw [e1]
    exact .nil
  | d :: ds, vs, f, ps, e, h => by
    simp only [RepL] at h
    obtain ⟨v, r, f1, f2, ev, h1, h2, e2⟩ := h
    simp only [toPL] at e
    cases q1 : toP d with
    | none => rw [q1] at e; cases e
    | some p =>
      cases q2 : toPL ds with
      | none => rw [q1, q2] at e; cases e
      | some ps' =>
        rw [q1, q2] at e
        cases e
        rw [ev]
        exact .cons (Rep.dp d v f1 p q1 h1) (RepL.dp ds r f2 ps' q2 h2)
end
end
def deq (a b : D) : Option Bool := match toP a, toP b with
  | some p, some q => if SeqAt.shaped p = true ∧ SeqAt.shaped q = true then some (PyData.eqv p q) else none
  | _, _ => none
def oEq (a b : D) : Option (D × D × D) := (deq a b).map fun k => (.bl k, a, b)
def oNe (a b : D) : Option (D × D × D) := (deq a b).map fun k => (.bl (!k), a, b)
theorem deq_some {a b : D} {k : Bool} (h : deq a b = some k) : ∃ p q, toP a = some p ∧ toP b = some q ∧ SeqAt.shaped p = true ∧ SeqAt.shaped q = true ∧ k = PyData.eqv p q := by
  unfold deq at h
  split at h
  · split at h
    · rename_i p q e1 e2 s
      exact ⟨p, q, e1, e2, s.1, s.2, (Option.some.inj h).symm⟩
    · cases h
  · cases h
section
variable {c : Cn}
theorem g_eq : G2 c (rEqD c.K) oEq := by
  intro H x y a b T Q d a' b' e gd k
  unfold oEq at e
  cases q : deq a b with
  | none => rw [q] at e; cases e
  | some kk =>
    rw [q] at e
    cases e
    obtain ⟨p, r, e1, e2, s1, s2, rfl⟩ := deq_some q
    obtain ⟨Z, f, h⟩ := gd.head
    obtain ⟨Z', f', h'⟩ := gd.tail.head
    exact ⟨p, r, Rep.dp _ _ _ _ e1 h', Rep.dp _ _ _ _ e2 h, s1, s2, k _ H (gd.addB _)⟩
theorem g_ne : G2 c (rNeD c.K) oNe := by
  intro H x y a b T Q d a' b' e gd k
  unfold oNe at e
  cases q : deq a b with
  | none => rw [q] at e; cases e
  | some kk =>
    rw [q] at e
    cases e
    obtain ⟨p, r, e1, e2, s1, s2, rfl⟩ := deq_some q
    obtain ⟨Z, f, h⟩ := gd.head
    obtain ⟨Z', f', h'⟩ := gd.tail.head
    exact ⟨p, r, Rep.dp _ _ _ _ e1 h', Rep.dp _ _ _ _ e2 h, s1, s2, k _ H (gd.addB _)⟩
end
/-- is it None? -/
def isNon : D → Option Bool
  | .non => some true
  | .val v => some (decide (v = .non))
  | _ => some false
def oIs (a b : D) : Option (D × D × D) := match b, isNon a with
  | .non, some k => some (.bl k, a, .non)
  | _, _ => none
def oIsNot (a b : D) : Option (D × D × D) := match b, isNon a with
  | .non, some k => some (.bl (!k), a, .non)
  | _, _ => none
theorem isNon_ok {c : Cn} {Z : Addr → Prop} {H : Hp} {v : V} {f : List Addr} {d : D} {k : Bool} (h : Rep c Z H d v f) (e : isNon d = some k) : k = decide (v = .non) := by
  cases d with
  | non => cases e; rw [h.1]; rfl
  | bl b => cases e; rw [h.1]; rfl
  | int i => cases e; rw [h.1]; rfl
  | str x => cases e; rw [h.1]; rfl
  | val u => cases e; rw [h.1]
  | seq xs => simp only [Rep] at h; obtain ⟨a, e', _⟩ := h; cases e; rw [e']; rfl
  | exn => simp only [Rep] at h; obtain ⟨⟨a, e'⟩, _⟩ := h; cases e; rw [e']; rfl
  | lst o xs => simp only [Rep] at h; obtain ⟨a, vs, f', e', _⟩ := h; cases e; rw [e']; rfl
  | tup xs => simp only [Rep] at h; obtain ⟨a, vs, e', _⟩ := h; cases e; rw [e']; rfl
  | dic o ks xs => simp only [Rep] at h; obtain ⟨a, vs, f', e', _⟩ := h; cases e; rw [e']; rfl
  | ins o C fs xs => simp only [Rep] at h; obtain ⟨a, vs, f', e', _⟩ := h; cases e; rw [e']; rfl
section
variable {c : Cn}
theorem g_is : G2 c (fun x y H Q => y = .non ∧ Q (.bl (decide (x = .non))) H) oIs := by
  intro H x y a b T Q d a' b' e gd k
  unfold oIs at e
  split at e
  · rename_i kk e1
    cases e
    obtain ⟨Z, f, h⟩ := gd.tail.head
    refine ⟨gd.isN, ?_⟩
    rw [← isNon_ok h e1]
    exact k _ H (gd.addB _)
  · cases e
theorem g_isNot : G2 c (fun x y H Q => y = .non ∧ Q (.bl (!decide (x = .non))) H) oIsNot := by
  intro H x y a b T Q d a' b' e gd k
  unfold oIsNot at e
  split at e
  · rename_i kk e1
    cases e
    obtain ⟨Z, f, h⟩ := gd.tail.head
    refine ⟨gd.isN, ?_⟩
    rw [← isNon_ok h e1]
    exact k _ H (gd.addB _)
  · cases e
end
end Mir
end
section
set_option Elab.async false
set_option linter.all false
set_option maxRecDepth 100000
set_option maxHeartbeats 2000000
/-! Mir3: tests, displays, statements, loops, comprehensions, defs and calls. -/
namespace Mir
open PySem PySem.Spec PyProof.Rows L2

section
variable {c : Cn} {EX : XW}
/-! ### tests -/
def asB (f : M D) : M Bool := do
  let d ← f
  match d with
  | .bl b => pure b
  | _ => badM
theorem TtOk.test {t : TE} {f : M D} (h : TOk c EX t f) : TtOk c EX (tTest t) (asB f) := fun H σ ρ T Q ft gd p => by
  refine h H σ ρ T _ ft gd ((bind_post.mp p).imp (fun d ρ1 h2 v H1 f1 g1 => ?_) fun _ _ q => q)
  cases d with
  | bl b => exact ⟨b, g1.isB, h2 H1 f1 g1.tail⟩
  | _ => exact h2.elim
theorem TtOk.val {t : TE} {f : M D} (h : TOk c EX t f) : TtOk c EX (tB t) (asB f) := TtOk.test h
/-- truth -/
def tru : D → Option Bool
  | .non => some false
  | .bl b => some b
  | .int i => some (i != 0)
  | .str y => if y.length ≤ sizeLine then some ((y.length : Int) != 0) else none
  | .lst _ xs => some (!xs.isEmpty)
  | .tup xs => some (!xs.isEmpty)
  | .dic true ks _ => some (!ks.isEmpty)
  | _ => none
theorem empty_len {α β : Type} {xs : List α} {ys : List β} (h : xs.length = ys.length) : (!xs.isEmpty) = !ys.isEmpty := by
  cases xs <;> cases ys <;> first | rfl | cases h
theorem tru_ok' {Z : Addr → Prop} {H : Hp} {v : V} {f : List Addr} {d : D} {k : Bool} (h : Rep c Z H d v f) (e : tru d = some k) : TruV c.K v H k := by
  cases d with
  | exn => cases e
  | non => cases e; rw [h.1]; rfl
  | bl b => cases e; rw [h.1]; rfl
  | int i => cases e; rw [h.1]; rfl
  | str y =>
    have e : (if y.length ≤ sizeLine then some ((y.length : Int) != 0) else none) = some k := e
    by_cases q : y.length ≤ sizeLine
    · rw [if_pos q] at e
      cases e
      rw [h.1]
      exact ⟨q, rfl⟩
    · rw [if_neg q] at e
      cases e
  | val u => cases e
  | seq xs => cases e
  | lst o xs =>
    simp only [Rep] at h
    obtain ⟨a, vs, f', ev, r, q⟩ := h
    cases e
    rw [ev]
    refine .inl ⟨vs, ?_, (empty_len (RepL.len _ _ _ r)).symm⟩
    cases o with
    | true => simp only [if_true] at q; exact .of q.1
    | false => simp only [Bool.false_eq_true, if_false] at q; exact .inl q.1
  | tup xs =>
    simp only [Rep] at h
    obtain ⟨a, vs, ev, r, q⟩ := h
    cases e
    rw [ev]
    exact .inr (.inl ⟨vs, q, (empty_len (RepL.len _ _ _ r)).symm⟩)
  | dic o ks xs =>
    cases o with
    | false => cases e
    | true =>
      simp only [Rep, if_true] at h
      obtain ⟨a, vs, f', ev, r, l, q1, q2⟩ := h
      cases e
      rw [ev]
      refine .inr (.inr ⟨_, q1, ?_⟩)
      refine empty_len ?_
      rw [List.length_zip, RepL.len _ _ _ r, l, Nat.min_self]
  | ins o C fs xs => cases e
def evT (o : Opn) : M Bool := match o with
  | .tmp f => do
    let a ← f
    optM (tru a)
  | .slot i => do
    let a ← peek i
    optM (tru a)
theorem TtOk.truth {t : TE} {o : Opn} (h : OpnOk c EX t o) : TtOk c EX (fun σ H Q => t σ H fun x H' => ∃ k, TruV c.K x H' k ∧ Q k H') (evT o) := fun H σ ρ T Q ft gd p => by
  cases o with
  | tmp f =>
    refine h H σ ρ T _ ft gd ((bind_post.mp p).imp (fun d ρ1 h2 v H1 f1 g1 => ?_) fun _ _ q => q)
    obtain ⟨k, e, h3⟩ := opt_post.mp h2
    obtain ⟨Z, f', r⟩ := g1.head
    exact ⟨k, tru_ok' r e, h3 H1 f1 g1.tail⟩
  | slot i =>
    cases h
    obtain ⟨a, e, h2⟩ := peek_post.mp (bind_post.mp p)
    obtain ⟨k, e2, h3⟩ := opt_post.mp h2
    obtain ⟨v, q⟩ := ft.has i a e
    obtain ⟨Z, f', r⟩ := (slot_out gd e q).head
    exact ⟨v, q, k, tru_ok' r e2, h3 H ft gd⟩
def andT (f g : M Bool) : M Bool := do
  let b ← f
  if b = true then g else pure false
def orT (f g : M Bool) : M Bool := do
  let b ← f
  if b = true then pure true else g
def notT (f : M Bool) : M Bool := do
  let b ← f
  pure (!b)
theorem TtOk.and {t u : TT} {f g : M Bool} (h : TtOk c EX t f) (k : TtOk c EX u g) : TtOk c EX (tAnd t u) (andT f g) := fun H σ ρ T Q ft gd p => by
  refine h H σ ρ T _ ft gd ((bind_post.mp p).imp (fun b ρ1 h2 H1 f1 g1 => ?_) fun _ _ q => q)
  cases b with
  | true => exact k H1 σ ρ1 T Q f1 g1 h2
  | false => exact h2 H1 f1 g1
theorem TtOk.or {t u : TT} {f g : M Bool} (h : TtOk c EX t f) (k : TtOk c EX u g) : TtOk c EX (tOr t u) (orT f g) := fun H σ ρ T Q ft gd p => by
  refine h H σ ρ T _ ft gd ((bind_post.mp p).imp (fun b ρ1 h2 H1 f1 g1 => ?_) fun _ _ q => q)
  cases b with
  | true => exact h2 H1 f1 g1
  | false => exact k H1 σ ρ1 T Q f1 g1 h2
theorem TtOk.not {t : TT} {f : M Bool} (h : TtOk c EX t f) : TtOk c EX (tNot t) (notT f) := fun H σ ρ T Q ft gd p =>
  h H σ ρ T _ ft gd ((bind_post.mp p).imp (fun b ρ1 h2 H1 f1 g1 => h2 H1 f1 g1) fun _ _ q => q)
/-- .. as values -/
def andV (f g : M D) : M D := do
  let b ← asB f
  if b = true then g else pure (.bl false)
def orV (f g : M D) : M D := do
  let b ← asB f
  if b = true then pure (.bl true) else g
def notV (f : M D) : M D := do
  let b ← asB f
  pure (.bl (!b))
theorem asB_post {f : M D} {K : Bool → Env → Prop} {KE : Exn → Env → Prop} {ρ : Env} (h : OPost K KE (asB f ρ)) : OPost (fun d ρ1 => ∃ b, d = .bl b ∧ K b ρ1) KE (f ρ) := (bind_post.mp h).imp (fun d ρ1 h2 => by
  cases d with
  | bl b => exact ⟨b, rfl, h2⟩
  | _ => exact h2.elim) fun _ _ q => q
theorem TOk.andV {t u : TE} {f g : M D} (h : TOk c EX t f) (k : TOk c EX u g) : TOk c EX (tAndV t u) (andV f g) := fun H σ ρ T Q ft gd p => by
  refine h H σ ρ T _ ft gd ((asB_post (bind_post.mp p)).imp (fun d ρ1 h2 v H1 f1 g1 => ?_) fun _ _ q => q)
  obtain ⟨b, rfl, h3⟩ := h2
  refine ⟨b, g1.isB, ?_⟩
  cases b with
  | true => exact k H1 σ ρ1 T Q f1 g1.tail h3
  | false => exact h3 _ H1 f1 (g1.tail.addB false)
theorem TOk.orV {t u : TE} {f g : M D} (h : TOk c EX t f) (k : TOk c EX u g) : TOk c EX (tOrV t u) (orV f g) := fun H σ ρ T Q ft gd p => by
  refine h H σ ρ T _ ft gd ((asB_post (bind_post.mp p)).imp (fun d ρ1 h2 v H1 f1 g1 => ?_) fun _ _ q => q)
  obtain ⟨b, rfl, h3⟩ := h2
  refine ⟨b, g1.isB, ?_⟩
  cases b with
  | true => exact h3 _ H1 f1 (g1.tail.addB true)
  | false => exact k H1 σ ρ1 T Q f1 g1.tail h3
theorem TOk.notV {t : TE} {f : M D} (h : TOk c EX t f) : TOk c EX (tNotV t) (notV f) := fun H σ ρ T Q ft gd p => by
  refine h H σ ρ T _ ft gd ((asB_post (bind_post.mp p)).imp (fun d ρ1 h2 v H1 f1 g1 => ?_) fun _ _ q => q)
  obtain ⟨b, rfl, h3⟩ := h2
  exact ⟨b, g1.isB, h3 _ H1 f1 (g1.tail.addB (!b))⟩
def ifV (t : M Bool) (f g : M D) : M D := do
  let b ← t
  if b = true then f else g
theorem TOk.ifV {t : TT} {ta tb : TE} {m : M Bool} {f g : M D} (h : TtOk c EX t m) (ha : TOk c EX ta f) (hb : TOk c EX tb g) : TOk c EX (tIf t ta tb) (ifV m f g) := fun H σ ρ T Q ft gd p => by
  refine h H σ ρ T _ ft gd ((bind_post.mp p).imp (fun b ρ1 h2 H1 f1 g1 => ?_) fun _ _ q => q)
  cases b with
  | true => exact ha H1 σ ρ1 T Q f1 g1 h2
  | false => exact hb H1 σ ρ1 T Q f1 g1 h2

/-! ### argument lists, displays -/
def TaOk (c : Cn) (EX : XW) (t : TA) (f : M (List D)) : Prop := ∀ (H : Hp) (σ : St) (ρ : Env) (T : List (V × D)) (Q : List V → Hp → Prop), Fit c σ ρ → Good c H [] (T ++ sl σ ρ) →
  OPost (fun ds ρ' => ∀ vs H', vs.length = ds.length → Fit c σ ρ' → Good c H' [] (vs.zip ds ++ (T ++ sl σ ρ')) → Q vs H') (XPost c EX T σ) (f ρ) → t σ H Q
def consM (f : M D) (g : M (List D)) : M (List D) := do
  let d ← f
  let ds ← g
  pure (d :: ds)
theorem TaOk.nil : TaOk c EX tNil (pure []) := fun H σ ρ T Q ft gd p => p [] H rfl ft gd
theorem TaOk.cons {t : TE} {u : TA} {f : M D} {g : M (List D)} (h : TOk c EX t f) (k : TaOk c EX u g) : TaOk c EX (tCons t u) (consM f g) := fun H σ ρ T Q ft gd p => by
  refine h H σ ρ T _ ft gd ((bind_post.mp p).imp (fun d ρ1 h2 v H1 f1 g1 => ?_) fun _ _ q => q)
  refine k H1 σ ρ1 ((v, d) :: T) _ f1 g1 ((bind_post.mp h2).imp (fun ds ρ2 h3 vs H2 l f2 g2 => ?_) fun _ _ q => q.more)
  exact h3 (v :: vs) H2 (by rw [List.length_cons, List.length_cons, l]) f2 (g2.perm List.perm_middle)
def lstM (f : M (List D)) : M D := do
  let ds ← f
  if ds.length ≤ sizeLine then pure (.lst true ds) else badM
def tupM (f : M (List D)) : M D := do
  let ds ← f
  if ds.length ≤ sizeLine then pure (.tup ds) else badM
theorem TOk.lst {t : TA} {f : M (List D)} (h : TaOk c EX t f) : TOk c EX (tLst t) (lstM f) := fun H σ ρ T Q ft gd p => by
  refine h H σ ρ T _ ft gd ((bind_post.mp p).imp (fun ds ρ1 h2 vs H1 l f1 g1 => ?_) fun _ _ q => q)
  by_cases z : ds.length ≤ sizeLine
  · rw [if_pos z] at h2
    exact ⟨by rw [l]; exact z, fun p hp => h2 _ _ f1 (g1.newL l hp (by simp))⟩
  · rw [if_neg z] at h2
    exact h2.elim
theorem TOk.tup {t : TA} {f : M (List D)} (h : TaOk c EX t f) : TOk c EX (tTup t) (tupM f) := fun H σ ρ T Q ft gd p => by
  refine h H σ ρ T _ ft gd ((bind_post.mp p).imp (fun ds ρ1 h2 vs H1 l f1 g1 => ?_) fun _ _ q => q)
  by_cases z : ds.length ≤ sizeLine
  · rw [if_pos z] at h2
    exact ⟨by rw [l]; exact z, fun p hp => h2 _ _ f1 (g1.newT l hp (by simp))⟩
  · rw [if_neg z] at h2
    exact h2.elim
end

/-! ### statements -/
inductive Flw where
  | nx | rt (d : D) | bk | ct
structure Agr (W : List Nat) (σ σ' : St) : Prop where
  len : σ'.length = σ.length
  at' : ∀ (i : Nat), i ∉ W → σ'[i]? = σ[i]?
theorem Agr.refl {W : List Nat} {σ : St} : Agr W σ σ := ⟨rfl, fun _ _ => rfl⟩
theorem Agr.trans {W W' : List Nat} {σ σ' σ'' : St} (h : Agr W σ σ') (k : Agr W' σ' σ'') : Agr (W ++ W') σ σ'' :=
  ⟨k.len.trans h.len, fun i hi => (k.at' i fun z => hi (List.mem_append_right _ z)).trans (h.at' i fun z => hi (List.mem_append_left _ z))⟩
theorem Agr.same {W : List Nat} {σ σ' σ'' : St} (h : Agr W σ σ') (k : Agr W σ' σ'') : Agr W σ σ'' :=
  ⟨k.len.trans h.len, fun i hi => (k.at' i hi).trans (h.at' i hi)⟩
theorem Agr.more {W W' : List Nat} {σ σ' : St} (h : Agr W σ σ') (k : ∀ i ∈ W, i ∈ W') : Agr W' σ σ' := ⟨h.len, fun i hi => h.at' i fun z => hi (k i z)⟩
theorem Agr.set {σ : St} {i : Nat} {v : Option V} : Agr [i] σ (σ.set i v) := ⟨List.length_set, fun j hj => List.getElem?_set_ne fun e => hj (by rw [e]; exact List.mem_cons_self)⟩

def FPost (c : Cn) (W : List Nat) (T : List (V × D)) (σ : St) (Dn : Ends) (fl : Flw) (ρ : Env) : Prop := match fl with
  | .nx => ∀ σ' H, Agr W σ σ' → Fit c σ' ρ → Good c H [] (T ++ sl σ' ρ) → Dn.nx σ' H
  | .bk => ∀ σ' H, Agr W σ σ' → Fit c σ' ρ → Good c H [] (T ++ sl σ' ρ) → Dn.bk σ' H
  | .ct => ∀ σ' H, Agr W σ σ' → Fit c σ' ρ → Good c H [] (T ++ sl σ' ρ) → Dn.ct σ' H
  | .rt d => ∀ v σ' H, Agr W σ σ' → Fit c σ' ρ → Good c H [] ((v, d) :: (T ++ sl σ' ρ)) → Dn.rt v H
def XPostS (c : Cn) (EX : XW) (W : List Nat) (T : List (V × D)) (σ : St) (x : Exn) (ρ : Env) : Prop := ∀ σ', Agr W σ σ' → XPost c EX T σ' x ρ
/-- a statement's reading keeps to g; W: the slots that it stores -/
def SOk (c : Cn) (EX : XW) (W : List Nat) (t : TS) (g : M Flw) : Prop := ∀ (H : Hp) (σ : St) (ρ : Env) (T : List (V × D)) (Dn : Ends), Fit c σ ρ → Good c H [] (T ++ sl σ ρ) →
  OPost (FPost c W T σ Dn) (XPostS c EX W T σ) (g ρ) → t Dn σ H
/-- a target's -/
def GOk (c : Cn) (W : List Nat) (g : TG) (h : D → M Unit) : Prop := ∀ (H : Hp) (σ : St) (ρ : Env) (T : List (V × D)) (v : V) (d : D) (Q : St → Hp → Prop), Fit c σ ρ → Good c H [] ((v, d) :: (T ++ sl σ ρ)) →
  OPost (fun _ ρ' => ∀ σ' H', Agr W σ σ' → Fit c σ' ρ' → Good c H' [] (T ++ sl σ' ρ') → Q σ' H') (fun _ _ => False) (h d ρ) → g v σ H Q
def GsOk (c : Cn) (W : List Nat) (g : TGs) (h : List D → M Unit) : Prop := ∀ (H : Hp) (σ : St) (ρ : Env) (T : List (V × D)) (vs : List V) (ds : List D) (Q : St → Hp → Prop), Fit c σ ρ → vs.length = ds.length → Good c H [] (vs.zip ds ++ (T ++ sl σ ρ)) →
  OPost (fun _ ρ' => ∀ σ' H', Agr W σ σ' → Fit c σ' ρ' → Good c H' [] (T ++ sl σ' ρ') → Q σ' H') (fun _ _ => False) (h ds ρ) → g vs σ H Q
def stv (i : Nat) (d : D) : M Unit := fun ρ => if i < ρ.length then (if isx d = true then .bad else .ok () (ρ.set i (some d))) else .bad
theorem stv_post {K : Unit → Env → Prop} {KE : Exn → Env → Prop} {i : Nat} {d : D} {ρ : Env} (h : OPost K KE (stv i d ρ)) : i < ρ.length ∧ some d ≠ some D.exn ∧ K () (ρ.set i (some d)) := by
  unfold stv at h
  split at h
  · rename_i q
    by_cases z : isx d = true
    · rw [if_pos z] at h
      exact h.elim
    · rw [if_neg z] at h
      exact ⟨q, fun e => z (by cases e; rfl), h⟩
  · exact h.elim
theorem slot_store {c : Cn} {H : Hp} {T : List (V × D)} {σ : St} {ρ : Env} {i : Nat} {d : D} {v : V} (f : Fit c σ ρ) (g : Good c H [] ((v, d) :: (T ++ sl σ ρ))) (hi : i < ρ.length) : Good c H [] (T ++ sl (σ.set i (some v)) (ρ.set i (some d))) := by
  have g1 : Good c H [] ((v, d) :: (T ++ sl σ (ρ.set i none))) := g.sub ((List.Sublist.append (.refl T) sl_sub).cons_cons _)
  exact (g1.perm List.perm_middle.symm).perm (List.Perm.append_left T (sl_store hi f.len).symm)
section
variable {c : Cn} {EX : XW}
theorem GOk.name {i : Nat} : GOk c [i] (gName i) (stv i) := fun H σ ρ T v d Q f g p => by
  obtain ⟨hi, hx, q⟩ := stv_post p
  exact q _ H .set (f.store hi hx) (slot_store f g hi)
theorem GsOk.nil : GsOk c [] gNil (fun ds => match ds with | [] => pure () | _ => badM) := fun H σ ρ T vs ds Q f l g p => by
  cases ds with
  | nil =>
    cases vs with
    | nil => exact ⟨rfl, p σ H .refl f g⟩
    | cons _ _ => cases l
  | cons _ _ => exact p.elim
theorem OPost.noX {α : Type} {K : α → Env → Prop} {KE : Exn → Env → Prop} {o : Out α} (h : OPost K (fun _ _ => False) o) : OPost K KE o := h.imp (fun _ _ q => q) fun _ _ z => z.elim
theorem GsOk.cons {W W' : List Nat} {g : TG} {gs : TGs} {h : D → M Unit} {hs : List D → M Unit} (k : GOk c W g h) (ks : GsOk c W' gs hs) :
    GsOk c (W ++ W') (gCons g gs) (fun ds => match ds with | d :: r => (do h d; hs r) | [] => badM) := fun H σ ρ T vs ds Q f l gd p => by
  cases ds with
  | nil => exact p.elim
  | cons d r =>
    cases vs with
    | nil => cases l
    | cons v vr =>
      refine ⟨v, vr, rfl, ?_⟩
      refine k H σ ρ (vr.zip r ++ T) v d _ f (by rw [List.append_assoc]; exact gd) ((bind_post.mp p).imp (fun _ ρ1 p1 σ1 H1 a1 f1 g1 => ?_) fun _ _ z => z)
      exact ks H1 σ1 ρ1 T vr r Q f1 (Nat.succ.inj l) (by rw [← List.append_assoc]; exact g1) (p1.imp (fun _ ρ2 q σ2 H2 a2 f2 g2 => q σ2 H2 (a1.trans a2) f2 g2) fun _ _ z => z)
theorem GOk.tup {W : List Nat} {n : Nat} {gs : TGs} {hs : List D → M Unit} (k : GsOk c W gs hs) : GOk c W (gTup c.K n gs) (fun d => match d with | .tup ds => (if ds.length = n then hs ds else badM) | _ => badM) := fun H σ ρ T v d Q f gd p => by
  cases d with
  | tup ds =>
    by_cases q : ds.length = n
    · simp only [q, if_true] at p
      obtain ⟨a, vs, e, hq, hl, g1⟩ := gd.openT
      exact ⟨a, vs, e, hq, hl.trans q, k H σ ρ T vs ds Q f hl g1 p⟩
    · simp only [q, if_false] at p
      exact p.elim
  | _ => exact p.elim

def seqM (f g : M Flw) : M Flw := do
  let fl ← f
  match fl with
  | .nx => g
  | x => pure x
theorem FPost.more {W W' : List Nat} {T : List (V × D)} {σ : St} {Dn : Ends} {fl : Flw} {ρ : Env} (h : FPost c W' T σ Dn fl ρ) (k : ∀ i ∈ W, i ∈ W') : FPost c W T σ Dn fl ρ := by
  cases fl with
  | nx => exact fun σ' H a f g => h σ' H (a.more k) f g
  | bk => exact fun σ' H a f g => h σ' H (a.more k) f g
  | ct => exact fun σ' H a f g => h σ' H (a.more k) f g
  | rt d => exact fun v σ' H a f g => h v σ' H (a.more k) f g
theorem XPostS.more {W W' : List Nat} {T : List (V × D)} {σ : St} {x : Exn} {ρ : Env} (h : XPostS c EX W' T σ x ρ) (k : ∀ i ∈ W, i ∈ W') : XPostS c EX W T σ x ρ := fun σ' a => h σ' (a.more k)
theorem FPost.from {W : List Nat} {T : List (V × D)} {σ σ1 : St} {Dn : Ends} {fl : Flw} {ρ : Env} (h : FPost c W T σ Dn fl ρ) (a : Agr W σ σ1) : FPost c W T σ1 Dn fl ρ := by
  cases fl with
  | nx => exact fun σ' H a' f g => h σ' H (a.same a') f g
  | bk => exact fun σ' H a' f g => h σ' H (a.same a') f g
  | ct => exact fun σ' H a' f g => h σ' H (a.same a') f g
  | rt d => exact fun v σ' H a' f g => h v σ' H (a.same a') f g
theorem XPostS.from {W : List Nat} {T : List (V × D)} {σ σ1 : St} {x : Exn} {ρ : Env} (h : XPostS c EX W T σ x ρ) (a : Agr W σ σ1) : XPostS c EX W T σ1 x ρ := fun σ' a' => h σ' (a.same a')
theorem SOk.more {W W' : List Nat} {t : TS} {g : M Flw} (h : SOk c EX W t g) (k : ∀ i ∈ W, i ∈ W') : SOk c EX W' t g := fun H σ ρ T Dn f gd p =>
  h H σ ρ T Dn f gd (p.imp (fun _ _ q => q.more k) fun _ _ q => q.more k)
theorem SOk.seq {W W' : List Nat} {t u : TS} {f g : M Flw} (h : SOk c EX W t f) (k : SOk c EX W' u g) : SOk c EX (W ++ W') (tSeq t u) (seqM f g) := fun H σ ρ T Dn ft gd p => by
  have l1 : ∀ i ∈ W, i ∈ W ++ W' := fun i z => List.mem_append_left _ z
  have l2 : ∀ i ∈ W', i ∈ W ++ W' := fun i z => List.mem_append_right _ z
  refine h H σ ρ T _ ft gd ((bind_post.mp p).imp (fun fl ρ1 q => ?_) fun _ _ q => q.more l1)
  cases fl with
  | nx => exact fun σ1 H1 a1 f1 g1 => (k.more l2) H1 σ1 ρ1 T Dn f1 g1 (q.imp (fun _ _ z => z.from (a1.more l1)) fun _ _ z => z.from (a1.more l1))
  | bk => exact fun σ1 H1 a1 f1 g1 => q σ1 H1 (a1.more l1) f1 g1
  | ct => exact fun σ1 H1 a1 f1 g1 => q σ1 H1 (a1.more l1) f1 g1
  | rt d => exact fun v σ1 H1 a1 f1 g1 => q v σ1 H1 (a1.more l1) f1 g1
theorem SOk.next : SOk c EX [] tNext (pure .nx) := fun H σ ρ T Dn f g p => p σ H .refl f g
theorem SOk.brk : SOk c EX [] tBreak (pure .bk) := fun H σ ρ T Dn f g p => p σ H .refl f g
theorem SOk.cnt : SOk c EX [] tCont (pure .ct) := fun H σ ρ T Dn f g p => p σ H .refl f g
theorem SOk.never : SOk c EX [] tNever badM := fun H σ ρ T Dn f g p => p
def retM (f : M D) : M Flw := do
  let d ← f
  pure (.rt d)
theorem SOk.ret {t : TE} {f : M D} (h : TOk c EX t f) : SOk c EX [] (tRet t) (retM f) := fun H σ ρ T Dn ft gd p =>
  h H σ ρ T _ ft gd ((bind_post.mp p).imp (fun d ρ1 q v H1 f1 g1 => q v σ H1 .refl f1 g1) fun _ _ q => q σ .refl)
theorem SOk.retN : SOk c EX [] tRetN (pure (.rt .non)) := fun H σ ρ T Dn f g p => p .non σ H .refl f g.addN
def dropM (f : M D) : M Flw := do
  let _ ← f
  pure .nx
theorem SOk.drop {t : TE} {f : M D} (h : TOk c EX t f) : SOk c EX [] (tDrop t) (dropM f) := fun H σ ρ T Dn ft gd p =>
  h H σ ρ T _ ft gd ((bind_post.mp p).imp (fun d ρ1 q v H1 f1 g1 => q σ H1 .refl f1 g1.tail) fun _ _ q => q σ .refl)
def noX {α : Type} (f : M α) : M α := fun ρ => match f ρ with
  | .err _ _ => .bad
  | o => o
theorem noX_post {α : Type} {f : M α} {K : α → Env → Prop} {KE : Exn → Env → Prop} {ρ : Env} (h : OPost K KE (noX f ρ)) : OPost K (fun _ _ => False) (f ρ) := by
  unfold noX at h
  cases e : f ρ with
  | ok a r => rw [e] at h; exact h
  | err x r => rw [e] at h; exact h
  | bad => rw [e] at h; exact h
def asgM (f : M D) (h : D → M Unit) : M Flw := do
  let d ← f
  noX (h d)
  pure .nx
theorem SOk.asg {W : List Nat} {t : TE} {g : TG} {f : M D} {h : D → M Unit} (ht : TOk c EX t f) (hg : GOk c W g h) : SOk c EX W (tAsg t g) (asgM f h) := fun H σ ρ T Dn ft gd p =>
  ht H σ ρ T _ ft gd ((bind_post.mp p).imp (fun d ρ1 q v H1 f1 g1 => hg H1 σ ρ1 T v d _ f1 g1 ((noX_post (bind_post.mp q)).imp (fun _ ρ2 q2 σ2 H2 a2 f2 g2 => q2 σ2 H2 a2 f2 g2) fun _ _ z => z)) fun _ _ q => q σ .refl)
def parM (i j : Nat) (f : M (List D)) : M Flw := do
  let ds ← f
  match ds with
  | [a, b] => (do noX (stv i a); noX (stv j b); pure .nx)
  | _ => badM
theorem SOk.par {i j : Nat} {t : TA} {f : M (List D)} (h : TaOk c EX t f) : SOk c EX [i, j] (tPar i j t) (parM i j f) := fun H σ ρ T Dn ft gd p => by
  refine h H σ ρ T _ ft gd ((bind_post.mp p).imp (fun ds ρ1 q vs H1 l f1 g1 => ?_) fun _ _ q => q σ .refl)
  match ds, vs, l, q, g1 with
  | [a, b], [v, w], _, q, g1 =>
    obtain ⟨hi, hx, q2⟩ := stv_post (noX_post (bind_post.mp q))
    obtain ⟨hj, hx2, q3⟩ := stv_post (noX_post (bind_post.mp q2))
    refine ⟨v, w, rfl, ?_⟩
    have f2 := f1.store (v := v) (d := some a) hi hx
    have g2 : Good c H1 [] (((w, b) :: T) ++ sl (σ.set i (some v)) (ρ1.set i (some a))) := slot_store (T := (w, b) :: T) f1 g1 hi
    have g3 := slot_store (T := T) f2 g2 hj
    exact q3 _ H1 ((Agr.set.more fun k z => by simp at z; simp [z]).same (Agr.set.more fun k z => by simp at z; simp [z])) (f2.store hj hx2) g3
  | [], _, _, q, _ => exact q.elim
  | [_], _, _, q, _ => exact q.elim
  | _ :: _ :: _ :: _, _, _, q, _ => exact q.elim
def ifM (t : M Bool) (f g : M Flw) : M Flw := do
  let b ← t
  if b = true then f else g
theorem SOk.ifS {W W' : List Nat} {t : TT} {u w : TS} {m : M Bool} {f g : M Flw} (h : TtOk c EX t m) (ha : SOk c EX W u f) (hb : SOk c EX W' w g) : SOk c EX (W ++ W') (tIfS t u w) (ifM m f g) := fun H σ ρ T Dn ft gd p => by
  refine h H σ ρ T _ ft gd ((bind_post.mp p).imp (fun b ρ1 q H1 f1 g1 => ?_) fun _ _ q => q σ .refl)
  cases b with
  | true => exact (ha.more fun i z => List.mem_append_left _ z) H1 σ ρ1 T Dn f1 g1 q
  | false => exact (hb.more fun i z => List.mem_append_right _ z) H1 σ ρ1 T Dn f1 g1 q
/-- name op= e -/
def augM (i : Nat) (f : M D) (g : D → D → Option (D × D × D)) : M Flw := do
  let _ ← peek i
  let b ← f
  let a ← peek i
  let p ← optM (g a b)
  noX (stv i p.1)
  pure .nx
theorem SOk.aug {i : Nat} {t : TE} {r : R2} {f : M D} {g : D → D → Option (D × D × D)} (h : TOk c EX t f) (hr : G2 c r g) : SOk c EX [i] (tAug i t r) (augM i f g) := fun H σ ρ T Dn ft gd p => by
  obtain ⟨a0, e0, p1⟩ := peek_post.mp (bind_post.mp p)
  obtain ⟨v, k⟩ := ft.has i a0 e0
  refine ⟨v, k, ?_⟩
  refine h H σ ρ T _ ft gd ((bind_post.mp p1).imp (fun b ρ1 q u H1 f1 g1 => ?_) fun _ _ q => q σ .refl)
  obtain ⟨a, e, q1⟩ := peek_post.mp (bind_post.mp q)
  obtain ⟨pr, e2, q2⟩ := opt_post.mp (bind_post.mp q1)
  obtain ⟨hi, hx, q3⟩ := stv_post (noX_post (bind_post.mp q2))
  refine hr H1 v u a b _ _ pr.1 pr.2.1 pr.2.2 e2 (slot_out (T := (u, b) :: T) g1 e k).swap fun z H2 g2 => q3 _ H2 .set (f1.store hi hx) ?_
  have g3 : Good c H2 [] ((z, pr.1) :: (T ++ sl σ (ρ1.set i none))) := g2.drop1.drop1
  exact (g3.perm List.perm_middle.symm).perm (List.Perm.append_left T (sl_store hi f1.len).symm)

/-! ### loops -/
def loopM (tg : D → M Unit) (body : M Flw) : List D → M Flw
  | [] => pure .nx
  | d :: ds => do
    noX (tg d)
    let fl ← body
    match fl with
    | .nx => loopM tg body ds
    | .ct => loopM tg body ds
    | .bk => pure .nx
    | .rt x => pure (.rt x)
theorem Good.seqAt {H : Hp} {R : List Addr} {L : List (V × D)} {v : V} {vs : List V} (g : Good c H R ((v, .seq vs) :: L)) : ∃ a, v = .ref a ∧ SqL c.K H a vs := by
  obtain ⟨Z, f, h⟩ := g.head
  simp only [Rep] at h
  obtain ⟨a, e, q, _⟩ := h
  exact ⟨a, e, q⟩
theorem drop_at {α : Type} {l : List α} {k : Nat} {x : α} (h : l[k]? = some x) : l.drop k = x :: l.drop (k + 1) := by
  obtain ⟨h1, h2⟩ := List.getElem?_eq_some_iff.mp h
  rw [List.drop_eq_getElem_cons h1, h2]
/-- one turn: the target, the body -/
theorem turn_ok {W W' : List Nat} {g : TG} {tb : TS} {tg : D → M Unit} {body : M Flw} (hg : GOk c W g tg) (hb : SOk c EX W' tb body) {H : Hp} {σ0 σ : St} {ρ : Env} {T U : List (V × D)} {v : V} {d : D} {ds : List D} {D : Ends} {Nx : St → Hp → Prop}
    (f : Fit c σ ρ) (gd : Good c H [] ((v, d) :: (U ++ (T ++ sl σ ρ)))) (ag : Agr (W ++ W') σ0 σ) (p : OPost (FPost c (W ++ W') T σ0 D) (XPostS c EX (W ++ W') T σ0) (loopM tg body (d :: ds) ρ))
    (nx : ∀ σ' H' ρ', Agr (W ++ W') σ0 σ' → Fit c σ' ρ' → Good c H' [] (U ++ (T ++ sl σ' ρ')) → OPost (FPost c (W ++ W') T σ0 D) (XPostS c EX (W ++ W') T σ0) (loopM tg body ds ρ') → Nx σ' H') :
    g v σ H fun σ2 H2 => tb { D with nx := Nx, ct := Nx, bk := D.nx } σ2 H2 := by
  have l1 : ∀ i ∈ W, i ∈ W ++ W' := fun i z => List.mem_append_left _ z
  have l2 : ∀ i ∈ W', i ∈ W ++ W' := fun i z => List.mem_append_right _ z
  refine hg H σ ρ (U ++ T) v d _ f (by rw [List.append_assoc]; exact gd) ((noX_post (bind_post.mp p)).imp (fun _ ρ1 p1 σ1 H1 a1 f1 g1 => ?_) fun _ _ z => z)
  have ag1 := ag.same (a1.more l1)
  have sb : ∀ {σ : St} {ρ : Env}, (T ++ sl σ ρ).Sublist ((U ++ T) ++ sl σ ρ) := fun {σ ρ} => List.Sublist.append (List.sublist_append_right U T) (.refl _)
  refine hb H1 σ1 ρ1 (U ++ T) _ f1 g1 ((bind_post.mp p1).imp (fun fl ρ2 p2 => ?_) fun x ρ2 q σ2 a2 => (q σ2 (ag1.same (a2.more l2))).sub (List.sublist_append_right U T))
  cases fl with
  | nx => exact fun σ2 H2 a2 f2 g2 => nx σ2 H2 ρ2 (ag1.same (a2.more l2)) f2 (by rw [List.append_assoc] at g2; exact g2) p2
  | ct => exact fun σ2 H2 a2 f2 g2 => nx σ2 H2 ρ2 (ag1.same (a2.more l2)) f2 (by rw [List.append_assoc] at g2; exact g2) p2
  | bk => exact fun σ2 H2 a2 f2 g2 => p2 σ2 H2 (ag1.same (a2.more l2)) f2 (g2.sub sb)
  | rt x => exact fun v2 σ2 H2 a2 f2 g2 => p2 v2 σ2 H2 (ag1.same (a2.more l2)) f2 (g2.sub (sb.cons_cons _))
def forL (f : M D) (tg : D → M Unit) (body : M Flw) : M Flw := do
  let d ← f
  match d with
  | .lst _ ds => loopM tg body (fzL ds)
  | _ => badM
theorem SOk.forL {W W' : List Nat} {t : TE} {g : TG} {tb : TS} {f : M D} {tg : D → M Unit} {body : M Flw} (ht : TOk c EX t f) (hg : GOk c W g tg) (hb : SOk c EX W' tb body) : SOk c EX (W ++ W') (tFor (iList c.K t) g tb) (forL f tg body) := fun H σ ρ T Dn ft gd p => by
  refine ht H σ ρ T _ ft gd ((bind_post.mp p).imp (fun d ρ1 q v H1 f1 g1 => ?_) fun _ _ q => q σ .refl)
  cases d with
  | lst o ds =>
    have g2 := g1.freeze
    simp only [fz] at g2
    obtain ⟨a, vs, e, hr, hl, g3⟩ := g2.readL
    refine ⟨a, e, ⟨vs, .inl hr⟩, ?_⟩
    refine for_list (K := c.K) (a := a) (xs := vs) (fun k σ' H' => ∃ ρ', Agr (W ++ W') σ σ' ∧ Fit c σ' ρ' ∧ Good c H' [] ((vs.drop k).zip ((fzL ds).drop k) ++ (v, .seq vs) :: (T ++ sl σ' ρ')) ∧
      OPost (FPost c (W ++ W') T σ Dn) (XPostS c EX (W ++ W') T σ) (loopM tg body ((fzL ds).drop k) ρ')) ⟨ρ1, .refl, f1, g3, q⟩ (fun k σ' H' _ h => ?_) (fun k x σ' H' hx h => ?_) (fun σ' H' h => ?_)
    · obtain ⟨ρ', _, _, g, _⟩ := h
      obtain ⟨a', e', s⟩ := (g.sub (List.sublist_append_right _ _)).seqAt
      rw [e] at e'
      cases e'
      exact s
    · obtain ⟨ρ', ag, f', g', p'⟩ := h
      have hk : k < (fzL ds).length := by rw [← hl]; exact ltE hx
      have hd := List.getElem?_eq_getElem hk
      rw [drop_at hd] at p' g'
      rw [drop_at hx] at g'
      refine turn_ok hg hb (U := (vs.drop (k + 1)).zip ((fzL ds).drop (k + 1)) ++ [(v, .seq vs)]) (T := T) (σ0 := σ) (D := Dn) f' (by rw [List.append_assoc]; exact g') ag p' fun σ2 H2 ρ2 ag2 f2 g2 p2 => ⟨ρ2, ag2, f2, by rw [List.append_assoc] at g2; exact g2, p2⟩
    · obtain ⟨ρ', ag, f', g', p'⟩ := h
      rw [List.drop_eq_nil_of_le (by omega)] at p'
      exact p' σ' H' ag f' (g'.sub ((List.sublist_cons_self _ _).trans (List.sublist_append_right _ _)))
  | _ => exact q.elim
/-- over a range -/
def rangeD (lo : Int) (n : Nat) : List D := (List.range n).map fun (i : Nat) => D.int (lo + (i : Int))
theorem rangeD_at {lo : Int} {n k : Nat} (h : k < n) : (rangeD lo n).drop k = .int (lo + (k : Int)) :: (rangeD lo n).drop (k + 1) := drop_at (by
  unfold rangeD
  rw [List.getElem?_map, List.getElem?_range h]
  rfl)
def inR (j : Int) : Bool := decide (-(2 ^ 62) ≤ j) && decide (j < 2 ^ 62)
theorem inR_ok {j : Int} (h : inR j = true) : -(2 ^ 62) ≤ j ∧ j < 2 ^ 62 := by
  unfold inR at h
  simp only [Bool.and_eq_true, decide_eq_true_eq] at h
  exact h
def forR1 (f : M (List D)) (tg : D → M Unit) (body : M Flw) : M Flw := do
  let ds ← f
  match ds with
  | [.int j] => if inR j = true then loopM tg body (rangeD 0 j.toNat) else badM
  | _ => badM
def forR2 (f : M (List D)) (tg : D → M Unit) (body : M Flw) : M Flw := do
  let ds ← f
  match ds with
  | [.int i, .int j] => if inR i = true ∧ inR j = true then loopM tg body (rangeD i (j - i).toNat) else badM
  | _ => badM
theorem range_ok {W W' : List Nat} {g : TG} {tb : TS} {tg : D → M Unit} {body : M Flw} (hg : GOk c W g tg) (hb : SOk c EX W' tb body) {lo : Int} {n : Nat} {H : Hp} {σ : St} {ρ : Env} {T : List (V × D)} {Dn : Ends} (f1 : Fit c σ ρ) (g1 : Good c H [] (T ++ sl σ ρ))
    (q : OPost (FPost c (W ++ W') T σ Dn) (XPostS c EX (W ++ W') T σ) (loopM tg body (rangeD lo n) ρ)) :
    ∃ W : Nat → Nat → St → Hp → Prop, (∃ m, W 0 m σ H) ∧ ∀ i m σ H, W i m σ H →
      ((Itr lo n).stop i H ∧ Dn.nx σ H) ∨ ((Itr lo n).go i H ∧ ∃ N : St → Hp → Prop, (∀ σ' H', N σ' H' → ∃ m', m' < m ∧ W (i + 1) m' σ' H') ∧ ∀ x H', (Itr lo n).yld i H x H' → g x σ H' fun σ2 H2 => tb { Dn with nx := N, ct := N, bk := Dn.nx } σ2 H2) := by
  refine for_range (lo := lo) (n := n) (fun k σ' H' => ∃ ρ', Agr (W ++ W') σ σ' ∧ Fit c σ' ρ' ∧ Good c H' [] (T ++ sl σ' ρ') ∧
      OPost (FPost c (W ++ W') T σ Dn) (XPostS c EX (W ++ W') T σ) (loopM tg body ((rangeD lo n).drop k) ρ')) ⟨ρ, .refl, f1, g1, q⟩ (fun k σ' H' hk h => ?_) (fun σ' H' h => ?_)
  · obtain ⟨ρ', ag, f', g', p'⟩ := h
    rw [rangeD_at hk] at p'
    exact turn_ok hg hb (U := []) (T := T) (σ0 := σ) (D := Dn) f' (g'.addI _) ag p' fun σ2 H2 ρ2 ag2 f2 g2 p2 => ⟨ρ2, ag2, f2, g2, p2⟩
  · obtain ⟨ρ', ag, f', g', p'⟩ := h
    rw [List.drop_eq_nil_of_le (by unfold rangeD; rw [List.length_map, List.length_range]; exact Nat.le_refl _)] at p'
    exact p' σ' H' ag f' g'
theorem one_of {H : Hp} {R : List Addr} {L : List (V × D)} {vs : List V} {d : D} (l : vs.length = 1) (g : Good c H R (vs.zip [d] ++ L)) : ∃ v, vs = [v] ∧ Good c H R ((v, d) :: L) := by
  match vs, l, g with
  | [v], _, g => exact ⟨v, rfl, g⟩
theorem two_of {H : Hp} {R : List Addr} {L : List (V × D)} {vs : List V} {d e : D} (l : vs.length = 2) (g : Good c H R (vs.zip [d, e] ++ L)) : ∃ v w, vs = [v, w] ∧ Good c H R ((v, d) :: (w, e) :: L) := by
  match vs, l, g with
  | [v, w], _, g => exact ⟨v, w, rfl, g⟩
theorem SOk.forR1 {W W' : List Nat} {t : TA} {g : TG} {tb : TS} {f : M (List D)} {tg : D → M Unit} {body : M Flw} (ht : TaOk c EX t f) (hg : GOk c W g tg) (hb : SOk c EX W' tb body) : SOk c EX (W ++ W') (tFor (iRng1 t) g tb) (forR1 f tg body) := fun H σ ρ T Dn ft gd p => by
  refine ht H σ ρ T _ ft gd ((bind_post.mp p).imp (fun ds ρ1 q vs H1 l f1 g1 => ?_) fun _ _ q => q σ .refl)
  match ds, l, q, g1 with
  | [.int j], l, q, g1 =>
    obtain ⟨v, ev, g2⟩ := one_of l g1
    have ei := g2.isI
    by_cases hj : inR j = true
    · simp only [hj, if_true] at q
      obtain ⟨h1, h2⟩ := inR_ok hj
      exact ⟨j, by rw [ev, ei], h1, h2, range_ok hg hb f1 g2.tail q⟩
    · simp only [hj, if_false] at q
      exact q.elim
theorem SOk.forR2 {W W' : List Nat} {t : TA} {g : TG} {tb : TS} {f : M (List D)} {tg : D → M Unit} {body : M Flw} (ht : TaOk c EX t f) (hg : GOk c W g tg) (hb : SOk c EX W' tb body) : SOk c EX (W ++ W') (tFor (iRng2 t) g tb) (forR2 f tg body) := fun H σ ρ T Dn ft gd p => by
  refine ht H σ ρ T _ ft gd ((bind_post.mp p).imp (fun ds ρ1 q vs H1 l f1 g1 => ?_) fun _ _ q => q σ .refl)
  match ds, l, q, g1 with
  | [.int i, .int j], l, q, g1 =>
    obtain ⟨v, w, ev, g2⟩ := two_of l g1
    have ei := g2.isI
    have ej := g2.tail.isI
    by_cases hj : inR i = true ∧ inR j = true
    · simp only [hj, and_self, if_true] at q
      obtain ⟨h1, h2⟩ := inR_ok hj.1
      obtain ⟨h3, h4⟩ := inR_ok hj.2
      exact ⟨i, j, by rw [ev, ei, ej], ⟨h1, h2, h3, h4⟩, range_ok hg hb f1 g2.tail.tail q⟩
    · simp only [hj, if_false] at q
      exact q.elim
end
end Mir
end
section
set_option Elab.async false
set_option linter.all false
set_option maxRecDepth 100000
set_option maxHeartbeats 2000000
/-! Mir4: comprehensions, defs and calls. -/
namespace Mir
open PySem PySem.Spec PyProof.Rows L2

def wipeD (ρ : Env) : List Nat → Env
  | [] => ρ
  | v :: vs => (wipeD ρ vs).set v none
def wipeM (vs : List Nat) : M Unit := fun ρ => .ok () (wipeD ρ vs)
def compM (vs : List Nat) (tg : D → M Unit) (tst : M Bool) (elt : M D) : List D → List D → M (List D)
  | [], acc => do
    wipeM vs
    pure acc
  | d :: ds, acc => do
    noX (tg d)
    let b ← noX tst
    if b = true then do
      let y ← noX elt
      if acc.length < sizeLine then do
        wipeM vs
        compM vs tg tst elt ds (acc ++ [y])
      else badM
    else do
      wipeM vs
      compM vs tg tst elt ds acc
theorem wipeM_post {vs : List Nat} {ρ : Env} {K : Unit → Env → Prop} {KE : Exn → Env → Prop} : OPost K KE (wipeM vs ρ) ↔ K () (wipeD ρ vs) := Iff.rfl
theorem wipeD_len (ρ : Env) : ∀ vs, (wipeD ρ vs).length = ρ.length
  | [] => rfl
  | v :: vs => by unfold wipeD; rw [List.length_set, wipeD_len ρ vs]
theorem wipeD_dead (ρ : Env) : ∀ (vs : List Nat) (i : Nat), i ∈ vs → (wipeD ρ vs).set i none = wipeD ρ vs
  | [], _, h => by cases h
  | v :: vs, i, h => by
    unfold wipeD
    by_cases e : i = v
    · subst e; rw [List.set_set]
    · have hi : i ∈ vs := by
        rcases List.mem_cons.mp h with z | z
        · exact absurd z e
        · exact z
      rw [List.set_comm _ _ (Ne.symm e), wipeD_dead ρ vs i hi]
theorem wipeD_some {ρ : Env} {i : Nat} {d : D} : ∀ {vs : List Nat}, (wipeD ρ vs)[i]? = some (some d) → ρ[i]? = some (some d) ∧ i ∉ vs
  | [], h => ⟨h, by simp⟩
  | v :: vs, h => by
    unfold wipeD at h
    by_cases hi : v = i
    · subst hi
      by_cases hv : v < (wipeD ρ vs).length
      · rw [List.getElem?_set_self hv] at h; cases h
      · rw [List.getElem?_eq_none (by simpa using hv)] at h; cases h
    · rw [List.getElem?_set_ne hi] at h
      obtain ⟨h1, h2⟩ := wipeD_some h
      exact ⟨h1, by simp only [List.mem_cons, not_or]; exact ⟨fun e => hi e.symm, h2⟩⟩
theorem wipe_out' {σ : St} {i : Nat} : ∀ {vs : List Nat}, i ∉ vs → (wipe σ vs)[i]? = σ[i]?
  | [], _ => rfl
  | v :: vs, h => by
    unfold wipe
    rw [List.getElem?_set_ne (fun e => h (by rw [e]; exact List.mem_cons_self))]
    exact wipe_out' fun z => h (List.mem_cons_of_mem _ z)
theorem wipe_in' {σ : St} {i : Nat} (hi : i < σ.length) : ∀ {vs : List Nat}, i ∈ vs → (wipe σ vs)[i]? = some none
  | [], h => by cases h
  | v :: vs, h => by
    unfold wipe
    by_cases e : v = i
    · subst e
      exact List.getElem?_set_self (by rw [wipe_length]; exact hi)
    · rw [List.getElem?_set_ne e]
      refine wipe_in' hi ?_
      rcases List.mem_cons.mp h with z | z
      · exact absurd z.symm e
      · exact z
theorem wipe_eq' {σ σ2 : St} {vs : List Nat} (l : σ2.length = σ.length) (h : ∀ (i : Nat), i ∉ vs → σ2[i]? = σ[i]?) : wipe σ2 vs = wipe σ vs := by
  refine List.ext_getElem? fun i => ?_
  by_cases z : i ∈ vs
  · by_cases hi : i < σ.length
    · rw [wipe_in' hi z, wipe_in' (by omega) z]
    · rw [List.getElem?_eq_none (by rw [wipe_length]; omega), List.getElem?_eq_none (by rw [wipe_length]; omega)]
  · rw [wipe_out' z, wipe_out' z, h i z]
theorem sl_dead {σ : St} {ρ : Env} {i : Nat} {w : Option V} (h : ρ.set i none = ρ) : sl (σ.set i w) ρ = sl σ ρ := by
  rw [← h]
  exact sl_none
theorem sl_wipe' {σ : St} {ρ : Env} : ∀ {vs : List Nat}, (∀ i ∈ vs, ρ.set i none = ρ) → sl (wipe σ vs) ρ = sl σ ρ
  | [], _ => rfl
  | v :: vs, h => by
    unfold wipe
    rw [sl_dead (h v List.mem_cons_self)]
    exact sl_wipe' fun i hi => h i (List.mem_cons_of_mem _ hi)
theorem sl_wipe {σ : St} {ρ : Env} {vs : List Nat} : sl (wipe σ vs) (wipeD ρ vs) = sl σ (wipeD ρ vs) := sl_wipe' fun i hi => wipeD_dead ρ vs i hi
theorem sl_wipe_sub {σ : St} {ρ : Env} : ∀ {vs : List Nat}, (sl σ (wipeD ρ vs)).Sublist (sl σ ρ)
  | [] => .refl _
  | v :: vs => by
    unfold wipeD
    exact sl_sub.trans sl_wipe_sub
theorem Fit.wipe {c : Cn} {σ : St} {ρ : Env} {vs : List Nat} (f : Fit c σ ρ) : Fit c (L2.wipe σ vs) (wipeD ρ vs) := by
  refine ⟨by rw [wipe_length, wipeD_len]; exact f.len, fun i d h => ?_, fun i h => ?_⟩
  · obtain ⟨h1, h2⟩ := wipeD_some h
    obtain ⟨v, k⟩ := f.has i d h1
    exact ⟨v, by rw [wipe_out' h2]; exact k⟩
  · obtain ⟨h1, h2⟩ := wipeD_some h
    obtain ⟨a, e, k⟩ := f.exn i h1
    exact ⟨a, e, by rw [wipe_out' h2]; exact k⟩
theorem Fit.unwipe {c : Cn} {σ : St} {ρ : Env} {vs : List Nat} (f : Fit c (L2.wipe σ vs) (wipeD ρ vs)) : Fit c σ (wipeD ρ vs) := by
  refine ⟨by rw [← f.len, wipe_length], fun i d h => ?_, fun i h => ?_⟩
  · obtain ⟨v, k⟩ := f.has i d h
    exact ⟨v, (wipe_some k).1⟩
  · obtain ⟨a, e, k⟩ := f.exn i h
    exact ⟨a, e, (wipe_some k).1⟩
section
variable {c : Cn} {EX : XW}
/-- one more thing at the end of an own list -/
theorem Good.push {H : Hp} {L : List (V × D)} {y v : V} {d : D} {acc : List D} (g : Good c H [] ((y, d) :: (v, .lst true acc) :: L)) :
    ∃ p vs, v = .ref p ∧ H p = some (.lst vs) ∧ vs.length = acc.length ∧ Good c (upd H p (.lst (vs ++ [y]))) [] ((v, .lst true (acc ++ [d])) :: L) := by
  obtain ⟨p, vs, e, hp, hl, g1⟩ := g.swap.openL
  refine ⟨p, vs, e, hp, hl, ?_⟩
  rw [e]
  refine Good.closeL ?_ (by rw [List.length_append, List.length_append, hl]; rfl) (.inr (by rw [hp]; trivial))
  rw [zip_append' hl]
  refine g1.perm ?_
  rw [List.append_assoc]
  exact .refl _
theorem TtOk.yes : TtOk c EX tYes (pure true) := fun H σ ρ T Q f g p => p H f g
def EXF : XW := fun _ _ _ _ => False
/-- a comprehension's turn -/
theorem cturn {vs : List Nat} {W : List Nat} {g : TG} {tt : TT} {te : TE} {tg : D → M Unit} {tst : M Bool} {elt : M D} (hg : GOk c W g tg) (hw : ∀ i ∈ W, i ∈ vs) (ht : TtOk c EXF tt tst) (he : TOk c EXF te elt)
    {H : Hp} {σ : St} {ρ : Env} {T U : List (V × D)} {v : V} {d : D} {ds acc : List D} {Da : Addr} {Nx Qd : Hp → Prop}
    (f : Fit c (wipe σ vs) ρ) (gd : Good c H [] ((v, d) :: ((.ref Da, .lst true acc) :: U ++ (T ++ sl (wipe σ vs) ρ))))
    (p : OPost (fun r ρ' => ∀ H', Fit c (wipe σ vs) ρ' → Good c H' [] ((.ref Da, .lst true r) :: (T ++ sl (wipe σ vs) ρ')) → Qd H') (fun _ _ => False) (compM vs tg tst elt (d :: ds) acc ρ))
    (nx : ∀ H' ρ' acc', Fit c (wipe σ vs) ρ' → Good c H' [] ((.ref Da, .lst true acc') :: U ++ (T ++ sl (wipe σ vs) ρ')) →
      OPost (fun r ρ' => ∀ H', Fit c (wipe σ vs) ρ' → Good c H' [] ((.ref Da, .lst true r) :: (T ++ sl (wipe σ vs) ρ')) → Qd H') (fun _ _ => False) (compM vs tg tst elt ds acc' ρ') → Nx H') :
    g v (wipe σ vs) H fun σ2 H2 => wipe σ2 vs = wipe σ vs ∧ tt σ2 H2 fun b H3 =>
      if b = true then te σ2 H3 fun y H4 => ∃ acc, H4 Da = some (.lst acc) ∧ acc.length < sizeLine ∧ Nx (upd H4 Da (.lst (acc ++ [y]))) else Nx H3 := by
  refine hg H (wipe σ vs) ρ ((.ref Da, .lst true acc) :: U ++ T) v d _ f (by rw [List.append_assoc]; exact gd) ((noX_post (bind_post.mp p)).imp (fun _ ρ1 p1 σ1 H1 a1 f1 g1 => ?_) fun _ _ z => z)
  have ew : wipe σ1 vs = wipe σ vs := by
    have e2 : wipe σ1 vs = wipe (wipe σ vs) vs := wipe_eq' a1.len fun i hi => a1.at' i fun z => hi (hw i z)
    rw [e2]
    exact wipe_eq' (wipe_length σ vs) fun i hi => wipe_out' hi
  refine ⟨ew, ht H1 σ1 ρ1 _ _ f1 g1 ((noX_post (bind_post.mp p1)).imp (fun b ρ2 p2 H2 f2 g2 => ?_) fun _ _ z => z.elim)⟩
  cases b with
  | true =>
    simp only [if_true] at p2 ⊢
    refine he H2 σ1 ρ2 _ _ f2 g2 ((noX_post (bind_post.mp p2)).imp (fun y ρ3 p3 z H3 f3 g3 => ?_) fun _ _ z => z.elim)
    by_cases hz : acc.length < sizeLine
    · rw [if_pos hz] at p3
      have p4 := wipeM_post.mp (bind_post.mp p3)
      obtain ⟨q, ws, eq, hq, hl, g4⟩ := g3.push
      cases eq
      refine ⟨ws, hq, by omega, nx _ (wipeD ρ3 vs) (acc ++ [y]) ?_ ?_ p4⟩
      · rw [← ew]; exact f3.wipe
      · have g5 : Good c (upd H3 Da (.lst (ws ++ [z]))) [] ((.ref Da, .lst true (acc ++ [y])) :: (U ++ T ++ sl σ1 ρ3)) := g4
        refine g5.sub (List.Sublist.cons_cons _ ?_)
        show (U ++ (T ++ sl (wipe σ vs) (wipeD ρ3 vs))).Sublist _
        rw [← List.append_assoc, ← ew, sl_wipe]
        exact List.Sublist.append (.refl _) sl_wipe_sub
    · rw [if_neg hz] at p3
      exact p3.elim
  | false =>
    simp only [Bool.false_eq_true, if_false] at p2 ⊢
    have p3 := wipeM_post.mp (bind_post.mp p2)
    refine nx H2 (wipeD ρ2 vs) acc ?_ ?_ p3
    · rw [← ew]; exact f2.wipe
    · have g5 : Good c H2 [] ((.ref Da, .lst true acc) :: (U ++ T ++ sl σ1 ρ2)) := g2
      refine g5.sub (List.Sublist.cons_cons _ ?_)
      show (U ++ (T ++ sl (wipe σ vs) (wipeD ρ2 vs))).Sublist _
      rw [← List.append_assoc, ← ew, sl_wipe]
      exact List.Sublist.append (.refl _) sl_wipe_sub
def lcL (vs : List Nat) (f : M D) (tg : D → M Unit) (tst : M Bool) (elt : M D) : M D := do
  let d ← f
  match d with
  | .lst _ ds => (do
    wipeM vs
    let r ← noX (compM vs tg tst elt (fzL ds) [])
    pure (.lst true r))
  | _ => badM
def lcR (vs : List Nat) (lo : Int) (n : Nat) (tg : D → M Unit) (tst : M Bool) (elt : M D) : M D := do
  wipeM vs
  let r ← noX (compM vs tg tst elt (rangeD lo n) [])
  pure (.lst true r)
def lcR1 (vs : List Nat) (f : M (List D)) (tg : D → M Unit) (tst : M Bool) (elt : M D) : M D := do
  let ds ← f
  match ds with
  | [.int j] => if inR j = true then lcR vs 0 j.toNat tg tst elt else badM
  | _ => badM
def lcR2 (vs : List Nat) (f : M (List D)) (tg : D → M Unit) (tst : M Bool) (elt : M D) : M D := do
  let ds ← f
  match ds with
  | [.int i, .int j] => if inR i = true ∧ inR j = true then lcR vs i (j - i).toNat tg tst elt else badM
  | _ => badM
/-- the last row of the rest: the compM wipes at its end -/
theorem compM_end {vs : List Nat} {tg : D → M Unit} {tst : M Bool} {elt : M D} {K : List D → Env → Prop} {acc : List D} {ρ : Env} (h : OPost K (fun _ _ => False) (compM vs tg tst elt [] acc ρ)) : K acc (wipeD ρ vs) := wipeM_post.mp (bind_post.mp h)
theorem compM_dead {vs : List Nat} {tg : D → M Unit} {tst : M Bool} {elt : M D} {KE : Exn → Env → Prop} : ∀ {ds acc : List D} {ρ : Env} {K : List D → Env → Prop}, OPost K KE (compM vs tg tst elt ds acc ρ) →
    OPost (fun r ρ' => (∀ i ∈ vs, ρ'.set i none = ρ') ∧ K r ρ') KE (compM vs tg tst elt ds acc ρ)
  | [], acc, ρ, K, h => bind_post.mpr (wipeM_post.mpr ⟨fun i hi => wipeD_dead ρ vs i hi, wipeM_post.mp (bind_post.mp h)⟩)
  | d :: ds, acc, ρ, K, h => by
    refine bind_post.mpr ((bind_post.mp h).imp (fun _ ρ1 p1 => bind_post.mpr ((bind_post.mp p1).imp (fun b ρ2 p2 => ?_) fun _ _ z => z)) fun _ _ z => z)
    cases b with
    | true =>
      simp only [if_true] at p2 ⊢
      refine bind_post.mpr ((bind_post.mp p2).imp (fun y ρ3 p3 => ?_) fun _ _ z => z)
      by_cases hz : acc.length < sizeLine
      · rw [if_pos hz] at p3 ⊢
        exact bind_post.mpr (wipeM_post.mpr (compM_dead (wipeM_post.mp (bind_post.mp p3))))
      · rw [if_neg hz] at p3
        exact p3.elim
    | false =>
      simp only [Bool.false_eq_true, if_false] at p2 ⊢
      exact bind_post.mpr (wipeM_post.mpr (compM_dead (wipeM_post.mp (bind_post.mp p2))))
theorem Fit.wipeD {c : Cn} {σ : St} {ρ : Env} (f : Fit c σ ρ) : ∀ {vs : List Nat}, Fit c σ (Mir.wipeD ρ vs)
  | [] => f
  | v :: vs => Fit.none (Fit.wipeD f)
/-- the end of a comprehension, in the def's own slots -/
theorem comp_fin {vs : List Nat} {tg : D → M Unit} {tst : M Bool} {elt : M D} {ds : List D} {σ : St} {ρ : Env} {T : List (V × D)} {Da : Addr} {Q : VK} {KE : Exn → Env → Prop}
    (h : OPost (fun d ρ' => ∀ v H', Fit c σ ρ' → Good c H' [] ((v, d) :: (T ++ sl σ ρ')) → Q v H') KE ((do let r ← noX (compM vs tg tst elt ds []); pure (.lst true r) : M D) ρ)) :
    OPost (fun r ρ' => ∀ H', Fit c (wipe σ vs) ρ' → Good c H' [] ((.ref Da, .lst true r) :: (T ++ sl (wipe σ vs) ρ')) → Q (.ref Da) H') (fun _ _ => False) (compM vs tg tst elt ds [] ρ) :=
  (compM_dead (noX_post (bind_post.mp h))).imp (fun r ρ' ⟨dd, q⟩ H' fx gx => by
    rw [sl_wipe' dd] at gx
    refine q _ H' ⟨by rw [← fx.len, wipe_length], fun i d e => ?_, fun i e => ?_⟩ gx
    · obtain ⟨v, k⟩ := fx.has i d e
      exact ⟨v, (wipe_some k).1⟩
    · obtain ⟨a, e', k⟩ := fx.exn i e
      exact ⟨a, e', (wipe_some k).1⟩) fun _ _ z => z
theorem comp_out {vs : List Nat} {tg : D → M Unit} {tst : M Bool} {elt : M D} {σ : St} {ρ : Env} {T U : List (V × D)} {Da : Addr} {acc : List D} {H : Hp} {Qd : Hp → Prop} (f : Fit c (wipe σ vs) ρ) (g : Good c H [] ((.ref Da, .lst true acc) :: U ++ (T ++ sl (wipe σ vs) ρ)))
    (p : OPost (fun r ρ' => ∀ H', Fit c (wipe σ vs) ρ' → Good c H' [] ((.ref Da, .lst true r) :: (T ++ sl (wipe σ vs) ρ')) → Qd H') (fun _ _ => False) (compM vs tg tst elt [] acc ρ)) : Qd H := by
  refine compM_end p H f.wipeD (g.sub (List.Sublist.cons_cons _ ?_))
  exact (List.Sublist.append (.refl T) sl_wipe_sub).trans (List.sublist_append_right U _)
theorem TOk.lcL {vs : List Nat} {W : List Nat} {t : TE} {g : TG} {tt : TT} {te : TE} {f : M D} {tg : D → M Unit} {tst : M Bool} {elt : M D} (hf : TOk c EX t f) (hg : GOk c W g tg) (ht : TtOk c EXF tt tst) (he : TOk c EXF te elt) (hw : ∀ i ∈ W, i ∈ vs := by decide) :
    TOk c EX (tLc (iList c.K t) g tt te vs) (lcL vs f tg tst elt) := fun H σ ρ T Q ft gd p => by
  refine hf H σ ρ T _ ft gd ((bind_post.mp p).imp (fun d ρ1 q v H1 f1 g1 => ?_) fun _ _ q => q)
  cases d with
  | lst o ds =>
    have g2 := g1.freeze
    simp only [fz] at g2
    obtain ⟨a, ws, e, hr, hl, g3⟩ := g2.readL
    refine ⟨a, e, ⟨ws, .inl hr⟩, fun Da hD => ?_⟩
    have q3 := comp_fin (Da := Da) (wipeM_post.mp (bind_post.mp q))
    refine lc_list (K := c.K) (a := a) (xs := ws) (fun k H' => ∃ ρ' acc, Fit c (wipe σ vs) ρ' ∧ Good c H' [] ((.ref Da, .lst true acc) :: ((ws.drop k).zip ((fzL ds).drop k) ++ [(v, .seq ws)]) ++ (T ++ sl (wipe σ vs) ρ')) ∧
      OPost (fun r ρ' => ∀ H', Fit c (wipe σ vs) ρ' → Good c H' [] ((.ref Da, .lst true r) :: (T ++ sl (wipe σ vs) ρ')) → Q (.ref Da) H') (fun _ _ => False) (compM vs tg tst elt ((fzL ds).drop k) acc ρ')) ⟨wipeD ρ1 vs, [], f1.wipe, ?_, q3⟩ (fun k H' _ h => ?_) (fun k x H' hx h => ?_) (fun H' h => ?_)
    · have g4 : Good c H1 [] (([] : List V).zip [] ++ ((ws.zip (fzL ds) ++ [(v, .seq ws)]) ++ (T ++ sl (wipe σ vs) (wipeD ρ1 vs)))) := by
        refine g3.sub ?_
        rw [sl_wipe]
        show ((ws.zip (fzL ds) ++ [(v, D.seq ws)]) ++ (T ++ sl σ (wipeD ρ1 vs))).Sublist _
        rw [List.append_assoc]
        refine List.Sublist.append (.refl _) ?_
        have s : (T ++ sl σ (wipeD ρ1 vs)).Sublist (T ++ sl σ ρ1) := List.Sublist.append (.refl T) sl_wipe_sub
        exact s.cons_cons _
      exact g4.newL rfl hD (by simp)
    · obtain ⟨ρ', acc, _, g, _⟩ := h
      have g5 : Good c H' [] ((v, .seq ws) :: (T ++ sl (wipe σ vs) ρ')) := by
        refine g.sub ?_
        show ((v, D.seq ws) :: (T ++ sl (wipe σ vs) ρ')).Sublist ((V.ref Da, D.lst true acc) :: (((ws.drop k).zip ((fzL ds).drop k) ++ [(v, D.seq ws)]) ++ (T ++ sl (wipe σ vs) ρ')))
        rw [List.append_assoc]
        exact (List.sublist_append_right _ _).trans (List.sublist_cons_self _ _)
      obtain ⟨a', e', s⟩ := g5.seqAt
      rw [e] at e'
      cases e'
      exact s
    · obtain ⟨ρ', acc, f', g', p'⟩ := h
      have hk : k < (fzL ds).length := by rw [← hl]; exact ltE hx
      have hd := List.getElem?_eq_getElem hk
      rw [drop_at hd] at p' g'
      rw [drop_at hx] at g'
      refine cturn (U := (ws.drop (k + 1)).zip ((fzL ds).drop (k + 1)) ++ [(v, .seq ws)]) (T := T) hg hw ht he f' ?_ p' fun H2 ρ2 acc2 f2 g2 p2 => ⟨ρ2, acc2, f2, g2, p2⟩
      exact g'.swap
    · obtain ⟨ρ', acc, f', g', p'⟩ := h
      rw [List.drop_eq_nil_of_le (by omega)] at p'
      exact comp_out f' g' p'
  | _ => exact q.elim
theorem comp_range {vs : List Nat} {W : List Nat} {g : TG} {tt : TT} {te : TE} {tg : D → M Unit} {tst : M Bool} {elt : M D} (hg : GOk c W g tg) (hw : ∀ i ∈ W, i ∈ vs) (ht : TtOk c EXF tt tst) (he : TOk c EXF te elt) {H : Hp} {σ : St} {ρ : Env} {T : List (V × D)} {Q : VK} {KE : Exn → Env → Prop} {lo : Int} {n : Nat} {Da : Addr}
    (f1 : Fit c σ ρ) (g1 : Good c H [] (T ++ sl σ ρ)) (hD : H Da = none) (q : OPost (fun d ρ' => ∀ v H', Fit c σ ρ' → Good c H' [] ((v, d) :: (T ++ sl σ ρ')) → Q v H') KE (lcR vs lo n tg tst elt ρ)) :
    ∃ W : Nat → Nat → Hp → Prop, (∃ m, W 0 m (upd H Da (.lst []))) ∧ ∀ i m H, W i m H →
      ((Itr lo n).stop i H ∧ Q (.ref Da) H) ∨ ((Itr lo n).go i H ∧ ∃ Nx : Hp → Prop, (∀ H', Nx H' → ∃ m', m' < m ∧ W (i + 1) m' H') ∧ ∀ x H', (Itr lo n).yld i H x H' → g x (wipe σ vs) H' fun σ2 H2 => wipe σ2 vs = wipe σ vs ∧ tt σ2 H2 fun b H3 =>
        if b = true then te σ2 H3 fun y H4 => ∃ acc, H4 Da = some (.lst acc) ∧ acc.length < sizeLine ∧ Nx (upd H4 Da (.lst (acc ++ [y]))) else Nx H3) := by
  have q3 := comp_fin (Da := Da) (wipeM_post.mp (bind_post.mp q))
  refine lc_range (lo := lo) (n := n) (Qd := fun H => Q (.ref Da) H) (fun k H' => ∃ ρ' acc, Fit c (wipe σ vs) ρ' ∧ Good c H' [] ((.ref Da, .lst true acc) :: [] ++ (T ++ sl (wipe σ vs) ρ')) ∧
    OPost (fun r ρ' => ∀ H', Fit c (wipe σ vs) ρ' → Good c H' [] ((.ref Da, .lst true r) :: (T ++ sl (wipe σ vs) ρ')) → Q (.ref Da) H') (fun _ _ => False) (compM vs tg tst elt ((rangeD lo n).drop k) acc ρ')) ⟨wipeD ρ vs, [], f1.wipe, ?_, q3⟩ (fun k H' hk h => ?_) (fun H' h => ?_)
  · have g4 : Good c H [] (([] : List V).zip [] ++ (T ++ sl (wipe σ vs) (wipeD ρ vs))) := by
      refine g1.sub ?_
      rw [sl_wipe]
      show (T ++ sl σ (wipeD ρ vs)).Sublist _
      exact List.Sublist.append (.refl _) sl_wipe_sub
    exact g4.newL rfl hD (by simp)
  · obtain ⟨ρ', acc, f', g', p'⟩ := h
    rw [rangeD_at hk] at p'
    exact cturn (U := []) (T := T) hg hw ht he f' (g'.addI _) p' fun H2 ρ2 acc2 f2 g2 p2 => ⟨ρ2, acc2, f2, g2, p2⟩
  · obtain ⟨ρ', acc, f', g', p'⟩ := h
    rw [List.drop_eq_nil_of_le (by unfold rangeD; rw [List.length_map, List.length_range]; exact Nat.le_refl _)] at p'
    exact comp_out (U := []) f' g' p'
theorem TOk.lcR1 {vs : List Nat} {W : List Nat} {t : TA} {g : TG} {tt : TT} {te : TE} {f : M (List D)} {tg : D → M Unit} {tst : M Bool} {elt : M D} (hf : TaOk c EX t f) (hg : GOk c W g tg) (ht : TtOk c EXF tt tst) (he : TOk c EXF te elt) (hw : ∀ i ∈ W, i ∈ vs := by decide) :
    TOk c EX (tLc (iRng1 t) g tt te vs) (lcR1 vs f tg tst elt) := fun H σ ρ T Q ft gd p => by
  refine hf H σ ρ T _ ft gd ((bind_post.mp p).imp (fun ds ρ1 q ws H1 l f1 g1 => ?_) fun _ _ q => q)
  match ds, l, q, g1 with
  | [.int j], l, q, g1 =>
    obtain ⟨v, ev, g2⟩ := one_of l g1
    have ei := g2.isI
    by_cases hj : inR j = true
    · simp only [hj, if_true] at q
      obtain ⟨h1, h2⟩ := inR_ok hj
      exact ⟨j, by rw [ev, ei], h1, h2, fun Da hD => comp_range hg hw ht he f1 g2.tail hD q⟩
    · simp only [hj, if_false] at q
      exact q.elim
theorem TOk.lcR2 {vs : List Nat} {W : List Nat} {t : TA} {g : TG} {tt : TT} {te : TE} {f : M (List D)} {tg : D → M Unit} {tst : M Bool} {elt : M D} (hf : TaOk c EX t f) (hg : GOk c W g tg) (ht : TtOk c EXF tt tst) (he : TOk c EXF te elt) (hw : ∀ i ∈ W, i ∈ vs := by decide) :
    TOk c EX (tLc (iRng2 t) g tt te vs) (lcR2 vs f tg tst elt) := fun H σ ρ T Q ft gd p => by
  refine hf H σ ρ T _ ft gd ((bind_post.mp p).imp (fun ds ρ1 q ws H1 l f1 g1 => ?_) fun _ _ q => q)
  match ds, l, q, g1 with
  | [.int i, .int j], l, q, g1 =>
    obtain ⟨v, w, ev, g2⟩ := two_of l g1
    have ei := g2.isI
    have ej := g2.tail.isI
    by_cases hj : inR i = true ∧ inR j = true
    · simp only [hj, and_self, if_true] at q
      obtain ⟨h1, h2⟩ := inR_ok hj.1
      obtain ⟨h3, h4⟩ := inR_ok hj.2
      exact ⟨i, j, by rw [ev, ei, ej], ⟨h1, h2, h3, h4⟩, fun Da hD => comp_range hg hw ht he f1 g2.tail.tail hD q⟩
    · simp only [hj, if_false] at q
      exact q.elim
end
end Mir
end
section
set_option Elab.async false
set_option linter.all false
set_option maxRecDepth 100000
set_option maxHeartbeats 2000000
/-! Mir5: defs and calls. -/
namespace Mir
open PySem PySem.Spec PyProof.Rows L2

inductive FRes where
  | ok (d : D) (outs : List D)
  | err (x : Exn)
  | bad
/-- what is lent: the places that ln marks -/
def lz : List Bool → List V → List D → List (V × D)
  | true :: ln, v :: vs, d :: ds => (v, d) :: lz ln vs ds
  | false :: ln, _ :: vs, _ :: ds => lz ln vs ds
  | _, _, _ => []
def FRPost (c : Cn) (T : List (V × D)) (ln : List Bool) (vs : List V) (Q : VK) (E : XK) : FRes → Prop
  | .ok d outs => ∀ v H, Good c H [] ((v, d) :: (lz ln vs outs ++ T)) → Q v H
  | .err x => ∀ cls dd H, ExnAt c H x cls dd T → E cls dd H
  | .bad => False
/-- a def keeps to f; ln marks the parameters whose things it may change and hands back -/
def spF (c : Cn) (ln : List Bool) (f : List D → FRes) : Sp := fun vs H Q E => ∃ ds T, vs.length = ds.length ∧ ln.length = ds.length ∧ Good c H [] (vs.zip ds ++ T) ∧ FRPost c T ln vs Q E (f ds)
theorem spF_len {c : Cn} {ln : List Bool} {f : List D → FRes} {vs : List V} {H : Hp} {Q : VK} {E : XK} (h : spF c ln f vs H Q E) : vs.length = ln.length := by
  obtain ⟨ds, T, h1, h2, _⟩ := h
  omega

/-! ### arguments -/
def Opn.isSlot : Opn → Bool
  | .tmp _ => false
  | .slot _ => true
def AgOk (c : Cn) (EX : XW) : TA → List Opn → Prop
  | t, [] => t = tNil
  | t, o :: as => ∃ te tr, t = tCons te tr ∧ OpnOk c EX te o ∧ AgOk c EX tr as
theorem AgOk.nil {c : Cn} {EX : XW} : AgOk c EX tNil [] := rfl
theorem AgOk.cons {c : Cn} {EX : XW} {te : TE} {tr : TA} {o : Opn} {as : List Opn} (h : OpnOk c EX te o) (k : AgOk c EX tr as) : AgOk c EX (tCons te tr) (o :: as) := ⟨te, tr, rfl, h, k⟩
def evArgs : List Opn → M (List (Option D))
  | [] => pure []
  | .tmp f :: as => do
    let d ← f
    let r ← evArgs as
    pure (some d :: r)
  | .slot i :: as => do
    let _ ← peek i
    let r ← evArgs as
    pure (none :: r)
def lendOut : List Opn → List (Option D) → M (List D)
  | [], [] => pure []
  | .tmp _ :: as, some d :: os => do
    let r ← lendOut as os
    pure (d :: r)
  | .slot i :: as, none :: os => do
    let d ← peek i
    setv i none
    let r ← lendOut as os
    pure (d :: r)
  | _, _ => badM
def lendIn : List Opn → List D → M Unit
  | [], _ => pure ()
  | .tmp _ :: as, _ :: ds => lendIn as ds
  | .slot i :: as, d :: ds => do
    stv i d
    lendIn as ds
  | _, _ => badM
def raiseM {α : Type} (x : Exn) : M α := fun ρ => .err x ρ
def callM (f : List D → FRes) (as : List Opn) : M D := do
  let os ← evArgs as
  let ds ← lendOut as os
  match f ds with
  | .ok d outs => (do
    noX (lendIn as outs)
    pure d)
  | .err x => raiseM x
  | .bad => badM
def SA (σ : St) : List Opn → List V → Prop
  | [], vs => vs = []
  | .tmp _ :: as, vs => ∃ v r, vs = v :: r ∧ SA σ as r
  | .slot i :: as, vs => ∃ v r, vs = v :: r ∧ σ[i]? = some (some v) ∧ SA σ as r
def pz : List V → List (Option D) → List (V × D)
  | v :: vs, some d :: os => (v, d) :: pz vs os
  | _ :: vs, none :: os => pz vs os
  | _, _ => []
section
variable {c : Cn} {EX : XW}
theorem args_ok : ∀ {as : List Opn} {t : TA}, AgOk c EX t as → ∀ (H : Hp) (σ : St) (ρ : Env) (T : List (V × D)) (Q : List V → Hp → Prop), Fit c σ ρ → Good c H [] (T ++ sl σ ρ) →
    OPost (fun os ρ' => ∀ vs H', SA σ as vs → Fit c σ ρ' → Good c H' [] (pz vs os ++ (T ++ sl σ ρ')) → Q vs H') (XPost c EX T σ) (evArgs as ρ) → t σ H Q
  | [], t, h, H, σ, ρ, T, Q, f, g, p => by
    have e : t = tNil := h
    subst e
    exact p [] H rfl f g
  | .tmp m :: as, t, h, H, σ, ρ, T, Q, f, g, p => by
    obtain ⟨te, tr, rfl, h1, h2⟩ := h
    refine h1 H σ ρ T _ f g ((bind_post.mp p).imp (fun d ρ1 q v H1 f1 g1 => ?_) fun _ _ q => q)
    refine args_ok h2 H1 σ ρ1 ((v, d) :: T) _ f1 g1 ((bind_post.mp q).imp (fun os ρ2 q2 vs H2 s f2 g2 => ?_) fun _ _ q => q.more)
    exact q2 (v :: vs) H2 ⟨v, vs, rfl, s⟩ f2 (g2.perm List.perm_middle)
  | .slot i :: as, t, h, H, σ, ρ, T, Q, f, g, p => by
    obtain ⟨te, tr, rfl, h1, h2⟩ := h
    have e1 : te = tVar i := h1
    subst e1
    obtain ⟨a, e, q⟩ := peek_post.mp (bind_post.mp p)
    obtain ⟨v, k⟩ := f.has i a e
    refine ⟨v, k, ?_⟩
    refine args_ok h2 H σ ρ T _ f g ((bind_post.mp q).imp (fun os ρ2 q2 vs H2 s f2 g2 => ?_) fun _ _ q => q)
    exact q2 (v :: vs) H2 ⟨v, vs, rfl, k, s⟩ f2 g2
theorem lendOut_ok : ∀ {as : List Opn} {os : List (Option D)} {vs : List V} {H : Hp} {σ : St} {ρ : Env} {T : List (V × D)} {K : List D → Env → Prop} {KE : Exn → Env → Prop}, SA σ as vs → Fit c σ ρ → Good c H [] (pz vs os ++ (T ++ sl σ ρ)) →
    OPost K KE (lendOut as os ρ) → ∃ ds ρ', K ds ρ' ∧ vs.length = ds.length ∧ ds.length = as.length ∧ Fit c σ ρ' ∧ Good c H [] (vs.zip ds ++ (T ++ sl σ ρ'))
  | [], [], vs, H, σ, ρ, T, K, KE, s, f, g, p => by
    have e : vs = [] := s
    subst e
    exact ⟨[], ρ, p, rfl, rfl, f, g⟩
  | [], _ :: _, _, _, _, _, _, _, _, _, _, _, p => p.elim
  | .tmp m :: as, [], _, _, _, _, _, _, _, _, _, _, p => p.elim
  | .tmp m :: as, none :: os, _, _, _, _, _, _, _, _, _, _, p => p.elim
  | .slot i :: as, [], _, _, _, _, _, _, _, _, _, _, p => p.elim
  | .slot i :: as, some _ :: os, _, _, _, _, _, _, _, _, _, _, p => p.elim
  | .tmp m :: as, some d :: os, vs, H, σ, ρ, T, K, KE, s, f, g, p => by
    obtain ⟨v, r, rfl, s'⟩ := s
    have g1 : Good c H [] (pz r os ++ ((v, d) :: T ++ sl σ ρ)) := g.perm List.perm_middle.symm
    obtain ⟨ds, ρ', k, l1, l2, f', g'⟩ := lendOut_ok s' f g1 (bind_post.mp p)
    exact ⟨d :: ds, ρ', k, by rw [List.length_cons, List.length_cons, l1], by rw [List.length_cons, List.length_cons, l2], f', g'.perm List.perm_middle⟩
  | .slot i :: as, none :: os, vs, H, σ, ρ, T, K, KE, s, f, g, p => by
    obtain ⟨v, r, rfl, k0, s'⟩ := s
    obtain ⟨d, e, p1⟩ := peek_post.mp (bind_post.mp p)
    have p2 := bind_post.mp p1
    rw [setv_post] at p2
    have g0 : Good c H [] ((pz r os ++ T) ++ sl σ ρ) := by rw [List.append_assoc]; exact g
    have g1 : Good c H [] (pz r os ++ ((v, d) :: T ++ sl σ (ρ.set i none))) := by
      have q := slot_out g0 e k0
      rw [List.append_assoc] at q
      exact q.perm List.perm_middle.symm
    obtain ⟨ds, ρ', k, l1, l2, f', g'⟩ := lendOut_ok s' f.none g1 (bind_post.mp p2)
    exact ⟨d :: ds, ρ', k, by rw [List.length_cons, List.length_cons, l1], by rw [List.length_cons, List.length_cons, l2], f', g'.perm List.perm_middle⟩
theorem lendIn_ok : ∀ {as : List Opn} {outs : List D} {vs : List V} {H : Hp} {σ : St} {ρ : Env} {T : List (V × D)} {K : Unit → Env → Prop} {KE : Exn → Env → Prop}, SA σ as vs → Fit c σ ρ → Good c H [] (lz (as.map Opn.isSlot) vs outs ++ (T ++ sl σ ρ)) →
    OPost K KE (lendIn as outs ρ) → ∃ ρ', K () ρ' ∧ Fit c σ ρ' ∧ Good c H [] (T ++ sl σ ρ')
  | [], outs, vs, H, σ, ρ, T, K, KE, s, f, g, p => ⟨ρ, p, f, g⟩
  | .tmp _ :: as, [], _, _, _, _, _, _, _, _, _, _, p => p.elim
  | .slot _ :: as, [], _, _, _, _, _, _, _, _, _, _, p => p.elim
  | .tmp _ :: as, d :: outs, vs, H, σ, ρ, T, K, KE, s, f, g, p => by
    obtain ⟨v, r, rfl, s'⟩ := s
    exact lendIn_ok s' f g p
  | .slot i :: as, d :: outs, vs, H, σ, ρ, T, K, KE, s, f, g, p => by
    obtain ⟨v, r, rfl, k0, s'⟩ := s
    obtain ⟨hi, hx, p1⟩ := stv_post (bind_post.mp p)
    have g0 : Good c H [] ((v, d) :: ((lz (as.map Opn.isSlot) r outs ++ T) ++ sl σ ρ)) := by rw [List.append_assoc]; exact g
    have g1 : Good c H [] ((v, d) :: ((lz (as.map Opn.isSlot) r outs ++ T) ++ sl σ (ρ.set i none))) := g0.sub (List.Sublist.cons_cons _ (List.Sublist.append (.refl _) sl_sub))
    have g2 := slot_in g1 hi k0
    rw [List.append_assoc] at g2
    exact lendIn_ok s' (f.put k0 hx) g2 p1
def okLn : List Bool → List Bool → Bool
  | [], [] => true
  | s :: ss, l :: ls => (!s || l) && okLn ss ls
  | _, _ => false
theorem okLn_len : ∀ {ss ls : List Bool}, okLn ss ls = true → ss.length = ls.length
  | [], [], _ => rfl
  | [], _ :: _, h => by cases h
  | _ :: _, [], h => by cases h
  | s :: ss, l :: ls, h => by
    simp only [okLn, Bool.and_eq_true] at h
    rw [List.length_cons, List.length_cons, okLn_len h.2]
theorem lz_sub : ∀ {ss ls : List Bool} {vs : List V} {ds : List D}, okLn ss ls = true → (lz ss vs ds).Sublist (lz ls vs ds)
  | [], [], _, _, _ => .refl _
  | [], _ :: _, _, _, h => by cases h
  | _ :: _, [], _, _, h => by cases h
  | s :: ss, l :: ls, [], ds, h => by
    have e : lz (s :: ss) [] ds = [] := by cases s <;> (unfold lz; rfl)
    rw [e]; exact List.nil_sublist _
  | s :: ss, l :: ls, v :: vs, [], h => by
    have e : lz (s :: ss) (v :: vs) [] = [] := by cases s <;> (unfold lz; rfl)
    rw [e]; exact List.nil_sublist _
  | s :: ss, l :: ls, v :: vs, d :: ds, h => by
    simp only [okLn, Bool.and_eq_true] at h
    have ih := lz_sub (vs := vs) (ds := ds) h.2
    cases s with
    | true =>
      cases l with
      | true => exact ih.cons_cons _
      | false => cases h.1
    | false =>
      cases l with
      | true => exact ih.trans (List.sublist_cons_self _ _)
      | false => exact ih
theorem TOk.call {ln : List Bool} {f : List D → FRes} {t : TA} {as : List Opn} (h : AgOk c EX t as) (hl : okLn (as.map Opn.isSlot) ln = true := by rfl) : TOk c EX (tCallS (spF c ln f) EX t) (callM f as) := fun H σ ρ T Q ft gd p => by
  refine args_ok h H σ ρ T _ ft gd ((bind_post.mp p).imp (fun os ρ1 q vs H1 s f1 g1 => ?_) fun _ _ q => q)
  obtain ⟨ds, ρ2, q2, l1, l2, f2, g2⟩ := lendOut_ok s f1 g1 (bind_post.mp q)
  refine ⟨ds, T ++ sl σ ρ2, l1, by rw [← okLn_len hl, List.length_map, l2], g2, ?_⟩
  cases e : f ds with
  | ok d outs =>
    simp only [e] at q2
    intro v H2 g3
    have q3 := noX_post (bind_post.mp q2)
    have g4 : Good c H2 [] (lz (as.map Opn.isSlot) vs outs ++ ((v, d) :: T ++ sl σ ρ2)) := (g3.perm List.perm_middle.symm).sub (List.Sublist.append (lz_sub hl) (.refl _))
    obtain ⟨ρ3, k, f3, g5⟩ := lendIn_ok s f2 g4 q3
    exact k v H2 f3 g5
  | err x =>
    simp only [e] at q2
    exact fun cls dd H2 a => q2 cls dd H2 f2 a
  | bad =>
    simp only [e] at q2
    exact q2.elim

/-! ### a def -/
def outsOf : List Bool → Env → Option (List D)
  | [], _ => some []
  | true :: ln, some d :: ρ => (outsOf ln ρ).map (d :: ·)
  | false :: ln, _ :: ρ => (outsOf ln ρ).map (.non :: ·)
  | _, _ => none
def envOf (m : Nat) (ds : List D) : Env := ds.map some ++ List.replicate (m - ds.length) none
def finF (ln : List Bool) : Out Flw → FRes
  | .ok (.rt d) ρ => (match outsOf ln ρ with
    | some outs => .ok d outs
    | none => .bad)
  | .ok .nx ρ => (match outsOf ln ρ with
    | some outs => .ok .non outs
    | none => .bad)
  | .ok _ _ => .bad
  | .err x _ => .err x
  | .bad => .bad
def defF (m : Nat) (ln : List Bool) (g : M Flw) (ds : List D) : FRes := if ln.length = ds.length ∧ (ds.any isx) = false then finF ln (g (envOf m ds)) else .bad
/-- a def that is handed the exception that a suite holds, as its first thing -/
def defX (m : Nat) (ln : List Bool) (g : M Flw) (ds : List D) : FRes := if ln.length = ds.length ∧ isx (ds.headD .non) = true ∧ (ds.tail.any isx) = false then finF ln (g (envOf m ds)) else .bad
theorem sl_start : ∀ {vs : List V} {ds : List D} {a b : Nat}, vs.length = ds.length → sl (vs.map some ++ List.replicate a none) (ds.map some ++ List.replicate b none) = vs.zip ds
  | [], [], a, b, _ => by
    show sl (List.replicate a none) (List.replicate b none) = []
    induction a generalizing b with
    | zero => rfl
    | succ a ih =>
      cases b with
      | zero => exact sl_nil _
      | succ b => exact ih b
  | [], _ :: _, _, _, h => by cases h
  | _ :: _, [], _, _, h => by cases h
  | v :: vs, d :: ds, a, b, h => by
    show (v, d) :: sl (vs.map some ++ List.replicate a none) (ds.map some ++ List.replicate b none) = (v, d) :: vs.zip ds
    rw [sl_start (Nat.succ.inj h)]
theorem envOf_at {m : Nat} {ds : List D} {i : Nat} {d : D} (e : (envOf m ds)[i]? = some (some d)) : ds[i]? = some d := by
  unfold envOf at e
  by_cases hi : i < ds.length
  · rw [List.getElem?_append_left (by simpa using hi), List.getElem?_map, List.getElem?_eq_getElem hi] at e
    rw [List.getElem?_eq_getElem hi]
    exact Option.some.inj e
  · rw [List.getElem?_append_right (by simpa using hi), List.getElem?_replicate] at e
    split at e <;> cases e
theorem start_at {N : List Str} {vs : List V} {i : Nat} {v : V} (h : vs[i]? = some v) : (L2.start N vs)[i]? = some (some v) := by
  have hv : i < vs.length := ltE h
  unfold L2.start
  rw [List.getElem?_append_left (by simpa using hv), List.getElem?_map, h]
  rfl
theorem fit_startX {c : Cn} {N : List Str} {vs : List V} {ds : List D} (h : vs.length = ds.length) (hx : ∀ i : Nat, ds[i]? = some D.exn → ∃ a, c.ea = some a ∧ vs[i]? = some (V.ref a)) : Fit c (L2.start N vs) (envOf N.length ds) := by
  refine ⟨by unfold L2.start envOf; simp only [List.length_append, List.length_map, List.length_replicate]; omega, fun i d e => ?_, fun i e => ?_⟩
  · have hi := ltE (envOf_at e)
    exact ⟨vs[i]'(by omega), start_at (List.getElem?_eq_getElem (by omega))⟩
  · obtain ⟨a, e1, e2⟩ := hx i (envOf_at e)
    exact ⟨a, e1, start_at e2⟩
theorem fit_start {c : Cn} {N : List Str} {vs : List V} {ds : List D} (h : vs.length = ds.length) (hx : (ds.any isx) = false) : Fit c (L2.start N vs) (envOf N.length ds) := fit_startX h fun i e => by
  have := List.any_eq_false.mp hx _ (List.mem_of_getElem? e)
  exact absurd rfl this
theorem outs_sub : ∀ {ln : List Bool} {vs : List V} {outs : List D} {σ : St} {ρ : Env}, outsOf ln ρ = some outs → (∀ (i : Nat), ln[i]? = some true → ∃ v, vs[i]? = some v ∧ σ[i]? = some (some v)) → σ.length = ρ.length → (lz ln vs outs).Sublist (sl σ ρ)
  | [], vs, outs, σ, ρ, _, _, _ => by
    have e : lz [] vs outs = [] := by unfold lz; rfl
    rw [e]
    exact List.nil_sublist _
  | true :: ln, vs, outs, σ, [], e, _, _ => by cases e
  | true :: ln, vs, outs, σ, none :: ρ, e, _, _ => by cases e
  | false :: ln, vs, outs, σ, [], e, _, _ => by cases e
  | true :: ln, vs, outs, σ, some d :: ρ, e, h, l => by
    simp only [outsOf] at e
    cases q : outsOf ln ρ with
    | none => rw [q] at e; cases e
    | some os =>
      rw [q] at e
      cases e
      obtain ⟨v, h1, h2⟩ := h 0 rfl
      match vs, σ, h1, h2, l, h with
      | v' :: vs, s :: σ, h1, h2, l, h =>
        simp at h1 h2
        subst h1 h2
        show ((v', d) :: lz ln vs os).Sublist ((v', d) :: sl σ ρ)
        exact (outs_sub q (fun i hi => by simpa using h (i + 1) (by simpa using hi)) (Nat.succ.inj l)).cons_cons _
  | false :: ln, vs, outs, σ, r :: ρ, e, h, l => by
    simp only [outsOf] at e
    cases q : outsOf ln ρ with
    | none => rw [q] at e; cases e
    | some os =>
      rw [q] at e
      cases e
      match σ, l, h with
      | s :: σ, l, h =>
        have sub : (sl σ ρ).Sublist (sl (s :: σ) (r :: ρ)) := by
          cases s with
          | none => cases r <;> exact .refl _
          | some u =>
            cases r with
            | none => exact .refl _
            | some e => exact List.sublist_cons_self (u, e) (sl σ ρ)
        match vs, h with
        | [], h =>
          have e : lz (false :: ln) [] (D.non :: os) = [] := by unfold lz; rfl
          rw [e]
          exact List.nil_sublist _
        | v :: vs, h =>
          show (lz ln vs os).Sublist _
          exact (outs_sub q (fun i hi => by simpa using h (i + 1) (by simpa using hi)) (Nat.succ.inj l)).trans sub
theorem body_core {W : List Nat} {ln : List Bool} {t : TS} {g : M Flw} {N : List Str} {vs : List V} {ds : List D} {T : List (V × D)} {H : Hp} {Q : VK} {E : XK} (h : SOk c (fun _ => E) W t g) (hw : ∀ (i : Nat), ln[i]? = some true → i ∉ W)
    (l1 : vs.length = ds.length) (l2 : ln.length = ds.length) (ft : Fit c (L2.start N vs) (envOf N.length ds)) (g0 : Good c H [] (T ++ sl (L2.start N vs) (envOf N.length ds))) (p : FRPost c T ln vs Q E (finF ln (g (envOf N.length ds)))) : t { nx := fun _ H' => Q .non H', rt := Q } (L2.start N vs) H := by
  refine h H (L2.start N vs) (envOf N.length ds) T _ ft g0 ?_
  have back : ∀ {σ' : St} {ρ' : Env} {outs : List D} {H' : Hp} {v : V} {d : D}, outsOf ln ρ' = some outs → Agr W (L2.start N vs) σ' → Fit c σ' ρ' → Good c H' [] ((v, d) :: (T ++ sl σ' ρ')) → Good c H' [] ((v, d) :: (lz ln vs outs ++ T)) := fun {σ' ρ' outs H' v d} eo a f' g' => by
    have s : (lz ln vs outs).Sublist (sl σ' ρ') := outs_sub eo (fun i hi => by
      have hlt : i < ln.length := ltE hi
      have hv : i < vs.length := by omega
      refine ⟨vs[i], List.getElem?_eq_getElem hv, ?_⟩
      rw [a.at' i (hw i hi)]
      unfold L2.start
      rw [List.getElem?_append_left (by simpa using hv), List.getElem?_map, List.getElem?_eq_getElem hv]
      rfl) f'.len
    have g1 : Good c H' [] ((v, d) :: (T ++ lz ln vs outs)) := g'.sub (List.Sublist.cons_cons _ (List.Sublist.append (.refl T) s))
    exact g1.perm (List.Perm.cons _ List.perm_append_comm)
  cases e : g (envOf N.length ds) with
  | ok fl ρ' =>
    rw [e] at p
    cases fl with
    | nx =>
      simp only [finF] at p
      cases eo : outsOf ln ρ' with
      | none => rw [eo] at p; exact p.elim
      | some outs =>
        rw [eo] at p
        exact fun σ' H' a f' g' => p .non H' (back eo a f' g'.addN)
    | rt d =>
      simp only [finF] at p
      cases eo : outsOf ln ρ' with
      | none => rw [eo] at p; exact p.elim
      | some outs =>
        rw [eo] at p
        exact fun v σ' H' a f' g' => p v H' (back eo a f' g')
    | bk => exact p.elim
    | ct => exact p.elim
  | err x ρ' =>
    rw [e] at p
    exact fun σ' a cls dd H' f' ax => p cls dd H' (ax.sub (List.sublist_append_left T _))
  | bad =>
    rw [e] at p
    exact p.elim
/-- THE RULE: a def's body keeps to g, so the def keeps to defF .. g -/
theorem body_ok {W : List Nat} {ln : List Bool} {t : TS} {g : M Flw} {N : List Str} {vs : List V} {H : Hp} {Q : VK} {E : XK} (h : SOk c (fun _ => E) W t g) (hw : ∀ (i : Nat), ln[i]? = some true → i ∉ W)
    (sp : spF c ln (defF N.length ln g) vs H Q E) : t { nx := fun _ H' => Q .non H', rt := Q } (L2.start N vs) H := by
  obtain ⟨ds, T, l1, l2, gd, p⟩ := sp
  unfold defF at p
  by_cases hc : ln.length = ds.length ∧ (ds.any isx) = false
  rotate_left
  · rw [if_neg hc] at p
    exact p.elim
  rw [if_pos hc] at p
  have ft : Fit c (L2.start N vs) (envOf N.length ds) := fit_start l1 hc.2
  have es : sl (L2.start N vs) (envOf N.length ds) = vs.zip ds := sl_start l1
  have g0 : Good c H [] (T ++ sl (L2.start N vs) (envOf N.length ds)) := by
    rw [es]
    exact gd.perm List.perm_append_comm
  exact body_core h hw l1 l2 ft g0 p
end
end Mir
end
section
set_option Elab.async false
set_option linter.all false
set_option maxRecDepth 100000
set_option maxHeartbeats 2000000
/-! Mir6: defs by name; what else a program uses. -/
namespace Mir
open PySem PySem.Spec PyProof.Rows L2

/-! ### defs by name -/
/-- where a def of the text stands -/
structure Lk (K : PySem.W.Frag) (mg : Str → Option Value) (x : Str) (st : Stmt) (ps : List Str) : Prop where
  ex : ∃ f fd, Fun K x x st f fd ∧ Binds K fd ps [] ∧ mg x = some (.ref f)
/-- a def that keeps its promise, by name -/
structure DefAt (P : Program) (w : World) (K : PySem.W.Frag) (mg : Str → Option Value) (base : Heap) (k : Nat) (x : Str) (ps : List Str) (sp : Sp) : Prop where
  ex : ∃ f fd, mg x = some (.ref f) ∧ PySem.W.keepIn K (.ref f) = true ∧ Binds K fd ps [] ∧ FnOk P w K mg base (L2N.CX P w) k f fd ps sp ∧ ∃ st, Fun K x x st f fd
def lnOk (ln : List Bool) (W : List Nat) : Bool := (List.range ln.length).all fun i => !(ln.getD i false) || !(W.contains i)
theorem lnOk_ok {ln : List Bool} {W : List Nat} (h : lnOk ln W = true) : ∀ (i : Nat), ln[i]? = some true → i ∉ W := fun i hi hm => by
  unfold lnOk at h
  have q := List.all_eq_true.mp h i (List.mem_range.mpr (ltE hi))
  rw [List.getD_eq_getElem?_getD, hi] at q
  simp [hm] at q
section
variable {P : Program} {w : World} {K : PySem.W.Frag} {mg : Str → Option Value} {base : Heap} {c : Cn}
theorem def_mk {x : Str} {st : Stmt} {N ps : List Str} {ln : List Bool} {g : M Flw} {k : Nat} (L : Lk K mg x st ps) (S : FnScope N ps (defScope st)) (hl : ln.length = ps.length)
    (hbody : ∀ (f : Addr) (cdv : Value) (A : Around) (outer : List PySem.Env) (s : Shared) (H : Hp) (E : XK), Room k (A.deeper (envOfC x (defScope st) s.heap.objs.size f cdv)) →
      ∃ t W, PSs (cxOf (L2N.CX P w) P w K mg base N x (defScope st) f cdv A outer s H E) (defBody st) t ∧ SOk c (fun _ => E) W t g ∧ lnOk ln W = true) :
    DefAt P w K mg base (k + 1) x ps (spF c ln (defF N.length ln g)) := by
  obtain ⟨f, fd, F, b, m⟩ := L.ex
  obtain ⟨oc, od, kV, doc, pm, an, cdv, ct, osl, rfl, lk, hcd⟩ := F.ex
  refine ⟨f, _, m, F.kp, b, fn_of lk hcd S (fun vs H Q E h => (spF_len h).trans hl) fun A outer s H vs Q E hr sp => ?_, st, F⟩
  obtain ⟨t, W, hp, hs, hw⟩ := hbody f cdv A outer s H E hr
  exact ⟨t, hp, body_ok hs (lnOk_ok hw) sp⟩
/-- the tactic's shorter way: the derivation, then its meaning -/
theorem passF {X : Cx} (σ : St) : PassesAt (L2N.CX X.prog X.w) X σ (EXF σ) := fun _ _ _ _ _ _ h => by
  obtain ⟨_, _, _, _, _, _, _, _, _, _, _, _, z⟩ := h
  exact z.elim
end
section
variable {X : Cx} {k j : Nat} {x : Str} {ps : List Str} {sp : Sp} {E : L2.St → XK} {e : Expr} {es : List Expr} {t : TA} {p pos : Pos}
theorem pe_cd (G : DefAt X.prog X.w X.K X.mg X.base k x ps sp) (hr : Room j X.A) (hx : ∀ σ, PassesAt (L2N.CX X.prog X.w) X σ (E σ)) (ha : PA X (e :: es) t) (hk : k ≤ j := by decide) (hg : Gl X x := by rfl)
    (hdb : (x == ("__debug__" : Str)) = false := by decide) (he : starEach (e :: es) X.env = (false, eval e X.env) :: starEach es X.env := by rfl) (hpl : (backTo pos (starEach es X.env)).any (·.1) = false := by rfl) :
    PE X (.Call (.Name x p) (e :: es) [] pos) (tCallS sp E t) := by
  obtain ⟨f, fd, m, kp, b, F, _⟩ := G.ex
  exact pe_callS F (hr.mono hk) hg m kp b hx ha hdb he hpl
end

/-! ### + of numbers, texts, lists -/
def rPlus : R2 := fun x y H Q => (∃ i j, x = .int i ∧ y = .int j ∧ Q (.int (i + j)) H) ∨ (rCatS x y H Q ∨ rCatR x y H Q)
def oPlus (a b : D) : Option (D × D × D) := match oAdd a b with
  | some p => some p
  | none => match oCatS a b with
    | some p => some p
    | none => oCatL a b
section
variable {X : Cx} {c : Cn}
theorem op_plus : OpR X (binaryOp .Add) rPlus := op_add.or (op_add_str.or op_catR)
theorem g_plus : G2 c rPlus oPlus := G2.or g_add (G2.or g_catS g_catL)
theorem iop_plus : PIp X .Add (fun x y H Q => (∃ i j, x = .int i ∧ y = .int j ∧ Q (.int (i + j)) H) ∨ (rCatS x y H Q)) := iop_add.or iop_add_str
end
/-! ### order of texts beside numbers -/
/-! ### in a list or tuple of flat things -/
def toV : D → Option V
  | .non => some .non
  | .bl b => some (.bl b)
  | .int i => some (.int i)
  | .str x => some (.str x)
  | _ => none
def toVL : List D → Option (List V)
  | [] => some []
  | d :: ds => match toV d, toVL ds with
    | some v, some vs => some (v :: vs)
    | _, _ => none
def itemsOf : D → Option (List D)
  | .lst _ xs => some xs
  | .tup xs => some xs
  | _ => none
def oInV (neg : Bool) (a b : D) : Option (D × D × D) := match toV a, (itemsOf b).bind toVL with
  | some v, some vs => some (.bl (if neg then !inV v vs else inV v vs), a, b)
  | _, _ => none
/-- one text in another -/
def oInS (neg : Bool) : D → D → Option (D × D × D)
  | .str i, .str j => some (.bl (if neg then !(!(Builtin.Str.occurrences j i 0 j.length 1).isEmpty) else !(Builtin.Str.occurrences j i 0 j.length 1).isEmpty), .str i, .str j)
  | _, _ => none
section
variable {X : Cx} {c : Cn} {Z : Addr → Prop} {H : Hp}
theorem toV_ok {v u : V} {d : D} {f : List Addr} (h : Rep c Z H d v f) (e : toV d = some u) : v = u ∧ flatV u = true := by
  cases d with
  | non => cases e; exact ⟨h.1, rfl⟩
  | bl b => cases e; exact ⟨h.1, rfl⟩
  | int i => cases e; exact ⟨h.1, rfl⟩
  | str x => cases e; exact ⟨h.1, rfl⟩
  | _ => cases e
theorem toVL_ok : ∀ {ds : List D} {vs us : List V} {f : List Addr}, RepL c Z H ds vs f → toVL ds = some us → vs = us ∧ us.all flatV = true
  | [], vs, us, f, h, e => by
    cases e
    exact ⟨h.1, rfl⟩
  | d :: ds, vs, us, f, h, e => by
    simp only [RepL] at h
    obtain ⟨v, r, f1, f2, ev, h1, h2, e2⟩ := h
    simp only [toVL] at e
    cases q1 : toV d with
    | none => rw [q1] at e; cases e
    | some u =>
      cases q2 : toVL ds with
      | none => rw [q1, q2] at e; cases e
      | some ws =>
        rw [q1, q2] at e
        cases e
        obtain ⟨e1, b1⟩ := toV_ok h1 q1
        obtain ⟨e3, b2⟩ := toVL_ok h2 q2
        rw [ev, e1, e3]
        exact ⟨rfl, by rw [List.all_cons, b1, b2]; rfl⟩
theorem items_ok {v : V} {d : D} {f : List Addr} {xs : List D} (h : Rep c Z H d v f) (e : itemsOf d = some xs) : ∃ p vs f', v = .ref p ∧ (SqL c.K H p vs ∨ SqT c.K H p vs) ∧ RepL c Z H xs vs f' := by
  cases d with
  | lst o ys =>
    cases e
    simp only [Rep] at h
    obtain ⟨a, vs, f', ev, r, q⟩ := h
    refine ⟨a, vs, f', ev, .inl (.inl ?_), r⟩
    cases o with
    | true => simp only [if_true] at q; exact .of q.1
    | false => simp only [Bool.false_eq_true, if_false] at q; exact q.1
  | tup ys =>
    cases e
    simp only [Rep] at h
    obtain ⟨a, vs, ev, r, q⟩ := h
    exact ⟨a, vs, f, ev, .inr q, r⟩
  | _ => cases e
theorem g_inV {neg : Bool} : G2 c (rIn c.K neg) (oInV neg) := by
  intro H x y a b T Q d a' b' e gd k
  unfold oInV at e
  cases q1 : toV a with
  | none => rw [q1] at e; cases e
  | some v =>
    cases q2 : itemsOf b with
    | none => rw [q1, q2] at e; cases e
    | some ds =>
      cases q3 : toVL ds with
      | none => simp [q1, q2, q3] at e
      | some vs =>
        rw [q1, q2] at e
        simp only [Option.bind_some, q3] at e
        cases e
        obtain ⟨Z, f, h⟩ := gd.head
        obtain ⟨Z', f', h'⟩ := gd.tail.head
        obtain ⟨ev, fv⟩ := toV_ok h' q1
        obtain ⟨p, ws, f2, ey, hs, r⟩ := items_ok h q2
        obtain ⟨ew, fw⟩ := toVL_ok r q3
        subst ev ew
        exact ⟨p, ws, ey, hs, fv, fw, k _ H (gd.addB _)⟩
theorem g_inS : G2 c (fun x y H Q => ∃ i j, x = .str i ∧ y = .str j ∧ Q (.bl (!(Builtin.Str.occurrences j i 0 j.length 1).isEmpty)) H) (oInS false) := by
  intro H x y a b T Q d a' b' e gd k
  unfold oInS at e
  split at e
  · cases e
    exact ⟨_, _, gd.tail.isS, gd.isS, k _ H (gd.addB _)⟩
  · cases e
theorem g_notInS : G2 c (fun x y H Q => ∃ i j, x = .str i ∧ y = .str j ∧ Q (.bl (!(!(Builtin.Str.occurrences j i 0 j.length 1).isEmpty))) H) (oInS true) := by
  intro H x y a b T Q d a' b' e gd k
  unfold oInS at e
  split at e
  · cases e
    exact ⟨_, _, gd.tail.isS, gd.isS, k _ H (gd.addB _)⟩
  · cases e
end

/-! ### len, items by place -/
def oLen (a : D) : Option (D × D) := match a with
  | .str y => if y.length ≤ sizeLine then some (.int (y.length : Nat), a) else none
  | .lst _ xs => some (.int (xs.length : Nat), a)
  | .tup xs => some (.int (xs.length : Nat), a)
  | .seq vs => some (.int (vs.length : Nat), a)
  | _ => none
/-- the reading of a built-in with one argument, over its argument's reading -/
def r1 (r : List V → Hp → VK → Prop) : V → Hp → VK → Prop := fun x H Q => r [x] H Q
section
variable {X : Cx} {c : Cn} {EX : XW}
theorem TOk.cb1 {t : TE} {r : List V → Hp → VK → Prop} {o : Opn} {g : D → Option (D × D)} (h : OpnOk c EX t o) (hr : G1 c (r1 r) g) : TOk c EX (tCB r (tCons t tNil)) (ev1 o g) := TOk.op1 (t := t) (r := r1 r) h hr
theorem TOk.cb2 {ta tb : TE} {r : List V → Hp → VK → Prop} {o1 o2 : Opn} {g : D → D → Option (D × D × D)} (h1 : OpnOk c EX ta o1) (h2 : OpnOk c EX tb o2) (hr : G2 c (fun x y H Q => r [x, y] H Q) g) : TOk c EX (tCB r (tCons ta (tCons tb tNil))) (ev2 o1 o2 g) := TOk.op2 (r := fun x y H Q => r [x, y] H Q) h1 h2 hr
theorem g_len : G1 c (r1 fun xs H Q => ∃ x n, xs = [x] ∧ LenV c.K x H n ∧ Q (.int n) H) oLen := by
  intro H x a T Q d a' e gd k
  obtain ⟨Z, f, h⟩ := gd.head
  cases a with
  | str y =>
    have e : (if y.length ≤ sizeLine then some (D.int (y.length : Nat), D.str y) else none) = some (d, a') := e
    by_cases q : y.length ≤ sizeLine
    · rw [if_pos q] at e
      cases e
      exact ⟨x, y.length, rfl, by rw [h.1]; exact ⟨q, rfl⟩, k _ H (gd.addI _)⟩
    · rw [if_neg q] at e
      cases e
  | lst o xs =>
    cases e
    obtain ⟨p, vs, f', ev, hs, r⟩ := items_ok h (show itemsOf (.lst o xs) = some xs from rfl)
    refine ⟨x, xs.length, rfl, ?_, k _ H (gd.addI _)⟩
    rw [ev, ← RepL.len _ _ _ r]
    rcases hs with hs | hs
    · exact .inl ⟨vs, hs, rfl⟩
    · exact .inr ⟨vs, hs, rfl⟩
  | tup xs =>
    cases e
    obtain ⟨p, vs, f', ev, hs, r⟩ := items_ok h (show itemsOf (.tup xs) = some xs from rfl)
    refine ⟨x, xs.length, rfl, ?_, k _ H (gd.addI _)⟩
    rw [ev, ← RepL.len _ _ _ r]
    rcases hs with hs | hs
    · exact .inl ⟨vs, hs, rfl⟩
    · exact .inr ⟨vs, hs, rfl⟩
  | seq vs =>
    cases e
    obtain ⟨p, ev, hs⟩ := gd.seqAt
    exact ⟨x, vs.length, rfl, by rw [ev]; exact .inl ⟨vs, hs, rfl⟩, k _ H (gd.addI _)⟩
  | _ => cases e
end
def oIx (a b : D) : Option (D × D × D) := match a, b with
  | .lst o xs, .int i => (match ixN xs.length i with
    | some k => (match xs[k]? with
      | some d => some (fz d, .lst o (xs.set k (fz d)), .int i)
      | none => none)
    | none => none)
  | .tup xs, .int i => (match ixN xs.length i with
    | some k => (match xs[k]? with
      | some d => some (fz d, .tup (xs.set k (fz d)), .int i)
      | none => none)
    | none => none)
  | .str z, .int i => if z.length ≤ sizeLine then (match atI z.cps.toList i with
    | some x => some (.str ⟨#[x]⟩, .str z, .int i)
    | none => none) else none
  | .seq vs, .int i => (match atI vs i with
    | some (.int n) => some (.int n, .seq vs, .int i)
    | _ => none)
  | _, _ => none
section
variable {X : Cx} {c : Cn} {EX : XW}
theorem ixN_at {α : Type} {xs : List α} {n : Nat} {i : Int} {k : Nat} {v : α} (l : xs.length = n) (h : ixN n i = some k) (q : xs[k]? = some v) : atI xs i = some v := by
  unfold atI
  rw [l, h]
  exact q
theorem g_ix : G2 c (rIx c.K) oIx := by
  intro H x y a b T Q d a' b' e gd k
  unfold oIx at e
  split at e
  · rename_i o xs i
    split at e
    · rename_i kk q1
      split at e
      · rename_i dd q2
        cases e
        obtain ⟨p, vs, z, ev, hr, hl, hz, g1⟩ := gd.swap.ixL q2
        refine .inl ⟨p, vs, i, z, ev, gd.isI, .inl hr, ixN_at hl q1 hz, k z H ?_⟩
        exact g1.perm (List.Perm.cons _ (.swap _ _ _))
      · cases e
    · cases e
  · rename_i xs i
    split at e
    · rename_i kk q1
      split at e
      · rename_i dd q2
        cases e
        obtain ⟨p, vs, z, ev, hr, hl, hz, g1⟩ := gd.swap.ixT q2
        refine .inr (.inl ⟨p, vs, i, z, ev, gd.isI, hr, ixN_at hl q1 hz, k z H ?_⟩)
        exact g1.perm (List.Perm.cons _ (.swap _ _ _))
      · cases e
    · cases e
  · rename_i z i
    split at e
    · rename_i hz
      split at e
      · rename_i cc q1
        cases e
        exact .inr (.inr ⟨z, i, cc, gd.tail.isS, gd.isI, hz, q1, k _ H (gd.addS _)⟩)
      · cases e
    · cases e
  · rename_i vs i
    split at e
    · rename_i n q1
      cases e
      obtain ⟨p, ev, hs⟩ := gd.tail.seqAt
      exact .inl ⟨p, vs, i, .int n, ev, gd.isI, hs, q1, k _ H (gd.addI _)⟩
    · cases e
  · cases e
end
/-- isinstance by a built-in type -/
def tyD : D → Option String
  | .non => some "NoneType"
  | .bl _ => some "bool"
  | .int _ => some "int"
  | .str _ => some "str"
  | .lst _ _ => some "list"
  | .tup _ => some "tuple"
  | .dic _ _ _ => some "dict"
  | _ => none
def oIsi (T : String) (a : D) : Option (D × D) := match (tyD a).bind fun t => kitB t T with
  | some b => some (.bl b, a)
  | none => none
section
variable {X : Cx} {c : Cn} {EX : XW}
theorem sqt_ty {K : PySem.W.Frag} {H : Hp} {p : Addr} {vs : List V} (h : SqT K H p vs) : TyX K H (.ref p) (.type "tuple") := by
  rcases h with (h | ⟨o, h⟩) | ⟨o, its, n, h, hc, _⟩
  · exact .base (.tup h)
  · exact .fTuple h
  · exact .kTuple h hc
theorem rd_ty {K : PySem.W.Frag} {H : Hp} {p : Addr} {vs : List V} (h : Rd H p (.lst vs)) : TyX K H (.ref p) (.type "list") := by
  rcases h with h | ⟨o, h⟩
  · exact .base (.lst h)
  · exact .base (.frz h)
theorem rdd_ty {K : PySem.W.Frag} {H : Hp} {p : Addr} {vs : List (Key × V)} (h : Rd H p (.dK vs)) : TyX K H (.ref p) (.type "dict") := by
  rcases h with h | ⟨o, h⟩
  · exact .base (.dK h)
  · exact .fDict h
theorem tyD_ok {Z : Addr → Prop} {H : Hp} {v : V} {d : D} {f : List Addr} {t : String} (h : Rep c Z H d v f) (e : tyD d = some t) : TyX c.K H v (.type t) := by
  cases d with
  | non => cases e; rw [h.1]; exact .base .non
  | bl b => cases e; rw [h.1]; exact .base (.bl b)
  | int i => cases e; rw [h.1]; exact .base (.int i)
  | str x => cases e; rw [h.1]; exact .base (.str x)
  | lst o xs =>
    cases e
    simp only [Rep] at h
    obtain ⟨a, vs, f', ev, r, q⟩ := h
    rw [ev]
    refine rd_ty (vs := vs) ?_
    cases o with
    | true => simp only [if_true] at q; exact .of q.1
    | false => simp only [Bool.false_eq_true, if_false] at q; exact q.1
  | tup xs =>
    cases e
    simp only [Rep] at h
    obtain ⟨a, vs, ev, r, q⟩ := h
    rw [ev]
    exact sqt_ty q
  | dic o ks xs =>
    cases e
    simp only [Rep] at h
    obtain ⟨a, vs, f', ev, r, l, q⟩ := h
    rw [ev]
    refine rdd_ty (vs := ks.zip vs) ?_
    cases o with
    | true => simp only [if_true] at q; exact .of q.1
    | false => simp only [Bool.false_eq_true, if_false] at q; exact q.1
  | _ => cases e
theorem g_isi {T : String} : G1 c (fun x H Q => rIsi c.K [x, .ty T] H Q) (oIsi T) := by
  intro H x a T' Q d a' e gd k
  unfold oIsi at e
  cases q1 : tyD a with
  | none => rw [q1] at e; cases e
  | some t =>
    rw [q1] at e
    cases q2 : kitB t T with
    | none => simp [q2] at e
    | some b =>
      simp only [Option.bind_some, q2] at e
      cases e
      obtain ⟨Z, f, h⟩ := gd.head
      exact ⟨x, .ty T, .type t, .type T, b, rfl, .ty T, tyD_ok h q1, kit_ty q2, k _ H (gd.addB _)⟩
theorem TOk.isi {t : TE} {o : Opn} {T : String} (h : OpnOk c EX t o) : TOk c EX (tCB (rIsi c.K) (tCons t (tCons (tC (.ty T)) tNil))) (ev1 o (oIsi T)) := TOk.op1 (t := t) (r := fun x H Q => rIsi c.K [x, .ty T] H Q) h g_isi
end
end Mir
end
section
set_option Elab.async false
set_option linter.all false
set_option maxRecDepth 100000
set_option maxHeartbeats 2000000
/-! Mir7: slices, built-ins over lists, methods of lists and texts, stores by place. -/
namespace Mir
open PySem PySem.Spec PyProof.Rows L2

/-! ### slices -/
def PoOk (c : Cn) (EX : XW) (t : TO) : Option (M D) → Prop
  | none => t = tNoPart
  | some f => ∃ te, t = tPart te ∧ TOk c EX te f
def evPo : Option (M D) → M (Option Int)
  | none => pure none
  | some f => do
    let d ← f
    match d with
    | .int i => pure (some i)
    | _ => badM
def evS (o : Opn) (lo hi : Option (M D)) (g : D → Option Int → Option Int → Option (D × D)) : M D := match o with
  | .tmp f => do
    let a ← f
    let l ← evPo lo
    let u ← evPo hi
    let p ← optM (g a l u)
    pure p.1
  | .slot i => do
    let _ ← peek i
    let l ← evPo lo
    let u ← evPo hi
    let a ← peek i
    let p ← optM (g a l u)
    setq i p.2
    pure p.1
def GS (c : Cn) (r : V → Option Int → Option Int → Hp → VK → Prop) (g : D → Option Int → Option Int → Option (D × D)) : Prop := ∀ (H : Hp) (x : V) (a : D) (l u : Option Int) (T : List (V × D)) (Q : VK) (d a' : D), g a l u = some (d, a') → Good c H [] ((x, a) :: T) →
  (∀ v H', Good c H' [] ((v, d) :: (x, a') :: T) → Q v H') → r x l u H Q
section
variable {c : Cn} {EX : XW}
theorem po_ok {t : TO} {f : Option (M D)} (h : PoOk c EX t f) (H : Hp) (σ : St) (ρ : Env) (T : List (V × D)) (Q : Option Int → Hp → Prop) (ft : Fit c σ ρ) (gd : Good c H [] (T ++ sl σ ρ))
    (p : OPost (fun l ρ' => ∀ H', Fit c σ ρ' → Good c H' [] (T ++ sl σ ρ') → Q l H') (XPost c EX T σ) (evPo f ρ)) : t σ H Q := by
  cases f with
  | none =>
    have e : t = tNoPart := h
    subst e
    exact p H ft gd
  | some m =>
    obtain ⟨te, e, h1⟩ := h
    subst e
    refine h1 H σ ρ T _ ft gd ((bind_post.mp p).imp (fun d ρ1 q v H1 f1 g1 => ?_) fun _ _ q => q)
    cases d with
    | int i => exact ⟨i, g1.isI, q H1 f1 g1.tail⟩
    | _ => exact q.elim
theorem TOk.slice {t : TE} {tl th : TO} {r : V → Option Int → Option Int → Hp → VK → Prop} {o : Opn} {lo hi : Option (M D)} {g : D → Option Int → Option Int → Option (D × D)} (h : OpnOk c EX t o) (hl : PoOk c EX tl lo) (hh : PoOk c EX th hi) (hr : GS c r g) :
    TOk c EX (tSl r t tl th) (evS o lo hi g) := fun H σ ρ T Q ft gd p => by
  cases o with
  | tmp f =>
    refine h H σ ρ T _ ft gd ((bind_post.mp p).imp (fun a ρ1 q v H1 f1 g1 => ?_) fun _ _ q => q)
    refine po_ok hl H1 σ ρ1 ((v, a) :: T) _ f1 g1 ((bind_post.mp q).imp (fun l ρ2 q2 H2 f2 g2 => ?_) fun _ _ q => q.more)
    refine po_ok hh H2 σ ρ2 ((v, a) :: T) _ f2 g2 ((bind_post.mp q2).imp (fun u ρ3 q3 H3 f3 g3 => ?_) fun _ _ q => q.more)
    obtain ⟨pr, e, q4⟩ := opt_post.mp (bind_post.mp q3)
    exact hr H3 v a l u _ Q pr.1 pr.2 e g3 fun z H4 g4 => q4 z H4 f3 g4.drop1
  | slot i =>
    cases h
    obtain ⟨a0, e0, p1⟩ := peek_post.mp (bind_post.mp p)
    obtain ⟨v, k⟩ := ft.has i a0 e0
    refine ⟨v, k, ?_⟩
    refine po_ok hl H σ ρ T _ ft gd ((bind_post.mp p1).imp (fun l ρ2 q2 H2 f2 g2 => ?_) fun _ _ q => q)
    refine po_ok hh H2 σ ρ2 T _ f2 g2 ((bind_post.mp q2).imp (fun u ρ3 q3 H3 f3 g3 => ?_) fun _ _ q => q)
    obtain ⟨a, e, q4⟩ := peek_post.mp (bind_post.mp q3)
    obtain ⟨pr, e2, q5⟩ := opt_post.mp (bind_post.mp q4)
    have ⟨hx, q6⟩ := setq_post (bind_post.mp q5)
    exact hr H3 v a l u _ Q pr.1 pr.2 e2 (slot_out g3 e k) fun z H4 g4 => q6 z H4 (f3.put k hx) (slot_in (T := (z, pr.1) :: T) g4.swap (ltE e) k)
end
def cutL {α : Type} (xs : List α) (lo hi : Option Int) : List α := (xs.drop (HT.sIx xs.length 0 lo)).take (HT.sIx xs.length xs.length hi - HT.sIx xs.length 0 lo)
theorem cut_sub {α : Type} (xs : List α) (lo hi : Option Int) : (cutL xs lo hi).Sublist xs := (List.take_sublist _ _).trans (List.drop_sublist _ _)
def intsOf : List V → Option (List D)
  | [] => some []
  | .int i :: vs => (intsOf vs).map (.int i :: ·)
  | _ :: _ => none
def oSl (a : D) (l u : Option Int) : Option (D × D) := match a with
  | .lst o xs => some (.lst true (cutL (fzL xs) l u), .lst o (fzL xs))
  | .str z => if z.length ≤ sizeLine then some (.str (cutS z l u), .str z) else none
  | .seq vs => (match intsOf (cutL vs l u) with
    | some ds => some (.lst true ds, .seq vs)
    | none => none)
  | _ => none
def rSl (K : PySem.W.Frag) : V → Option Int → Option Int → Hp → VK → Prop := fun x lo hi H Q => rSlL K x lo hi H Q ∨ rSlS x lo hi H Q
section
variable {X : Cx} {c : Cn} {EX : XW}
theorem sl_any : SlR X (rSl X.K) := sl_list.or sl_str
theorem zip_cut {vs : List V} {ds : List D} (h : vs.length = ds.length) (l u : Option Int) : (cutL vs l u).zip (cutL ds l u) = cutL (vs.zip ds) l u := by
  unfold cutL
  have e : (vs.zip ds).length = ds.length := by rw [List.length_zip, h, Nat.min_self]
  rw [e, h, List.zip_eq_zipWith, List.zip_eq_zipWith, List.drop_zipWith, List.take_zipWith]
theorem cut_len {α β : Type} {vs : List α} {ds : List β} (h : vs.length = ds.length) (l u : Option Int) : (cutL vs l u).length = (cutL ds l u).length := by
  unfold cutL
  rw [List.length_take, List.length_take, List.length_drop, List.length_drop, h]
theorem intsOf_ok : ∀ {vs : List V} {ds : List D}, intsOf vs = some ds → vs.length = ds.length ∧ ∀ {H : Hp} {R : List Addr} {L : List (V × D)}, Good c H R L → Good c H R (vs.zip ds ++ L)
  | [], ds, h => by
    cases h
    exact ⟨rfl, fun g => g⟩
  | .int i :: vs, ds, h => by
    simp only [intsOf] at h
    cases q : intsOf vs with
    | none => rw [q] at h; cases h
    | some es =>
      rw [q] at h
      cases h
      obtain ⟨l, k⟩ := intsOf_ok q
      exact ⟨by rw [List.length_cons, List.length_cons, l], fun g => (k g).addI i⟩
  | .non :: _, _, h => by cases h
  | .bl _ :: _, _, h => by cases h
  | .str _ :: _, _, h => by cases h
  | .byt _ :: _, _, h => by cases h
  | .flt _ :: _, _, h => by cases h
  | .ref _ :: _, _, h => by cases h
  | .ty _ :: _, _, h => by cases h
theorem g_sl : GS c (rSl c.K) oSl := by
  intro H x a l u T Q d a' e gd k
  cases a with
  | lst o xs =>
    cases e
    obtain ⟨p, vs, ev, hr, hl, g1⟩ := gd.parts
    refine .inl ⟨p, vs, ev, .inl hr, fun q hq => k _ _ ?_⟩
    have hl' : vs.length = (fzL xs).length := by rw [fzL_len]; exact hl
    have g2 : Good c H [] ((cutL vs l u).zip (cutL (fzL xs) l u) ++ (x, .lst o (fzL xs)) :: T) := by
      rw [zip_cut hl']
      exact g1.sub (List.Sublist.append (cut_sub _ _ _) (.refl _))
    exact g2.newL (cut_len hl' l u) hq (by simp)
  | str z =>
    have e : (if z.length ≤ sizeLine then some (D.str (cutS z l u), D.str z) else none) = some (d, a') := e
    by_cases q : z.length ≤ sizeLine
    · rw [if_pos q] at e
      cases e
      exact .inr ⟨z, gd.isS, q, k _ H (gd.addS _)⟩
    · rw [if_neg q] at e
      cases e
  | seq vs =>
    have e : (match intsOf (cutL vs l u) with | some ds => some (D.lst true ds, D.seq vs) | none => none) = some (d, a') := e
    cases q : intsOf (cutL vs l u) with
    | none => rw [q] at e; cases e
    | some ds =>
      rw [q] at e
      cases e
      obtain ⟨p, ev, hs⟩ := gd.seqAt
      obtain ⟨hl, kk⟩ := intsOf_ok (c := c) q
      exact .inl ⟨p, vs, ev, hs, fun q2 hq => k _ _ ((kk gd).newL hl hq (by simp))⟩
  | _ => cases e
end

/-! ### built-ins over lists -/
def oList (a : D) : Option (D × D) := match a with
  | .lst o xs => some (.lst true (fzL xs), .lst o (fzL xs))
  | _ => none
def boolsOf : List D → Option (List Bool)
  | [] => some []
  | .bl b :: ds => (boolsOf ds).map (b :: ·)
  | _ :: _ => none
def numsOf : List D → Option (List Int)
  | [] => some []
  | .int i :: ds => (numsOf ds).map (i :: ·)
  | _ :: _ => none
def strsOf : List D → Option (List Str)
  | [] => some []
  | .str x :: ds => (strsOf ds).map (x :: ·)
  | _ :: _ => none
def oAll (a : D) : Option (D × D) := match a with
  | .lst _ xs => (match boolsOf xs with
    | some bs => some (.bl (bs.all id), a)
    | none => none)
  | _ => none
def oAny (a : D) : Option (D × D) := match a with
  | .lst _ xs => (match boolsOf xs with
    | some bs => some (.bl (bs.any id), a)
    | none => none)
  | _ => none
def oSum (a : D) : Option (D × D) := match a with
  | .lst _ xs => (match numsOf xs with
    | some ns => some (.int ns.sum, a)
    | none => none)
  | _ => none
section
variable {X : Cx} {c : Cn} {EX : XW} {Z : Addr → Prop} {H : Hp}
theorem boolsOf_ok : ∀ {ds : List D} {bs : List Bool} {vs : List V} {f : List Addr}, RepL c Z H ds vs f → boolsOf ds = some bs → vs = bs.map V.bl
  | [], bs, vs, f, h, e => by
    cases e
    exact h.1
  | .bl b :: ds, bs, vs, f, h, e => by
    simp only [RepL] at h
    obtain ⟨v, r, f1, f2, ev, h1, h2, e2⟩ := h
    simp only [boolsOf] at e
    cases q : boolsOf ds with
    | none => rw [q] at e; cases e
    | some cs =>
      rw [q] at e
      cases e
      rw [ev, h1.1, boolsOf_ok h2 q]
      rfl
  | .non :: _, _, _, _, _, e => by cases e
  | .int _ :: _, _, _, _, _, e => by cases e
  | .str _ :: _, _, _, _, _, e => by cases e
  | .val _ :: _, _, _, _, _, e => by cases e
  | .seq _ :: _, _, _, _, _, e => by cases e
  | .lst _ _ :: _, _, _, _, _, e => by cases e
  | .tup _ :: _, _, _, _, _, e => by cases e
  | .dic _ _ _ :: _, _, _, _, _, e => by cases e
  | .ins _ _ _ _ :: _, _, _, _, _, e => by cases e
theorem numsOf_ok : ∀ {ds : List D} {bs : List Int} {vs : List V} {f : List Addr}, RepL c Z H ds vs f → numsOf ds = some bs → vs = bs.map V.int
  | [], bs, vs, f, h, e => by
    cases e
    exact h.1
  | .int b :: ds, bs, vs, f, h, e => by
    simp only [RepL] at h
    obtain ⟨v, r, f1, f2, ev, h1, h2, e2⟩ := h
    simp only [numsOf] at e
    cases q : numsOf ds with
    | none => rw [q] at e; cases e
    | some cs =>
      rw [q] at e
      cases e
      rw [ev, h1.1, numsOf_ok h2 q]
      rfl
  | .non :: _, _, _, _, _, e => by cases e
  | .bl _ :: _, _, _, _, _, e => by cases e
  | .str _ :: _, _, _, _, _, e => by cases e
  | .val _ :: _, _, _, _, _, e => by cases e
  | .seq _ :: _, _, _, _, _, e => by cases e
  | .lst _ _ :: _, _, _, _, _, e => by cases e
  | .tup _ :: _, _, _, _, _, e => by cases e
  | .dic _ _ _ :: _, _, _, _, _, e => by cases e
  | .ins _ _ _ _ :: _, _, _, _, _, e => by cases e
theorem strsOf_ok : ∀ {ds : List D} {bs : List Str} {vs : List V} {f : List Addr}, RepL c Z H ds vs f → strsOf ds = some bs → vs = bs.map V.str
  | [], bs, vs, f, h, e => by
    cases e
    exact h.1
  | .str b :: ds, bs, vs, f, h, e => by
    simp only [RepL] at h
    obtain ⟨v, r, f1, f2, ev, h1, h2, e2⟩ := h
    simp only [strsOf] at e
    cases q : strsOf ds with
    | none => rw [q] at e; cases e
    | some cs =>
      rw [q] at e
      cases e
      rw [ev, h1.1, strsOf_ok h2 q]
      rfl
  | .non :: _, _, _, _, _, e => by cases e
  | .bl _ :: _, _, _, _, _, e => by cases e
  | .int _ :: _, _, _, _, _, e => by cases e
  | .val _ :: _, _, _, _, _, e => by cases e
  | .seq _ :: _, _, _, _, _, e => by cases e
  | .lst _ _ :: _, _, _, _, _, e => by cases e
  | .tup _ :: _, _, _, _, _, e => by cases e
  | .dic _ _ _ :: _, _, _, _, _, e => by cases e
  | .ins _ _ _ _ :: _, _, _, _, _, e => by cases e
theorem g_list : G1 c (r1 fun xs H Q => ∃ p ys, xs = [.ref p] ∧ (SqL c.K H p ys ∨ SqT c.K H p ys) ∧ ∀ l, H l = none → Q (.ref l) (upd H l (.lst ys))) oList := by
  intro H x a T Q d a' e gd k
  unfold oList at e
  split at e
  · rename_i o xs
    cases e
    obtain ⟨p, vs, ev, hr, hl, g1⟩ := gd.parts
    exact ⟨p, vs, by rw [ev], .inl (.inl hr), fun q hq => k _ _ (g1.newL (by rw [fzL_len]; exact hl) hq (by simp))⟩
  · cases e
theorem g_all : G1 c (r1 (rAll c.K)) oAll := by
  intro H x a T Q d a' e gd k
  unfold oAll at e
  split at e
  · rename_i o xs
    split at e
    · rename_i bs q
      cases e
      obtain ⟨Z, f, h⟩ := gd.head
      obtain ⟨p, vs, f', ev, hs, r⟩ := items_ok h (show itemsOf (.lst o xs) = some xs from rfl)
      obtain ⟨p2, vs2, ev2, hr, hl, _⟩ := gd.parts
      obtain ⟨Z2, p3, vs3, f3, ev3, hr3, hl3, r3⟩ := gd.lst
      have es := boolsOf_ok r3 q
      subst es
      exact ⟨p3, bs, by rw [ev3], .inl hr3, k _ H (gd.addB _)⟩
    · cases e
  · cases e
theorem g_any : G1 c (r1 (rAny c.K)) oAny := by
  intro H x a T Q d a' e gd k
  unfold oAny at e
  split at e
  · rename_i o xs
    split at e
    · rename_i bs q
      cases e
      obtain ⟨Z2, p3, vs3, f3, ev3, hr3, hl3, r3⟩ := gd.lst
      have es := boolsOf_ok r3 q
      subst es
      exact ⟨p3, bs, by rw [ev3], .inl hr3, k _ H (gd.addB _)⟩
    · cases e
  · cases e
theorem g_sum : G1 c (r1 (rSum c.K)) oSum := by
  intro H x a T Q d a' e gd k
  unfold oSum at e
  split at e
  · rename_i o xs
    split at e
    · rename_i bs q
      cases e
      obtain ⟨Z2, p3, vs3, f3, ev3, hr3, hl3, r3⟩ := gd.lst
      have es := numsOf_ok r3 q
      subst es
      exact ⟨p3, bs, by rw [ev3], .inl hr3, k _ H (gd.addI _)⟩
    · cases e
  · cases e
end
/-- int(x) of a number or a truth value -/
def oInt (a : D) : Option (D × D) := match a with
  | .int i => some (.int i, a)
  | .bl b => some (.int (if b then 1 else 0), a)
  | .str x => (match PySem.intText? x with
    | some n => if x.length ≤ 640 then some (.int n, a) else none
    | none => none)
  | _ => none
def rInt : List V → Hp → VK → Prop := fun xs H Q => ((∃ i, xs = [.int i] ∧ Q (.int i) H) ∨ ∃ k, xs = [.bl k] ∧ Q (.int (if k then 1 else 0)) H) ∨ ∃ a n, xs = [.str a] ∧ PySem.intText? a = some n ∧ a.length ≤ 640 ∧ Q (.int n) H
/-- str(i) -/
def oStr (a : D) : Option (D × D) := match a with
  | .int i => if i.natAbs.log2 < 1920 then some (.str (Str.ofString (toString i)), a) else none
  | _ => none
section
variable {X : Cx} {c : Cn} {EX : XW}
theorem call_intA : CallR X (.type "int") rInt := call_int1.or call_int_str
theorem g_int : G1 c (r1 rInt) oInt := by
  intro H x a T Q d a' e gd k
  unfold oInt at e
  split at e
  · cases e
    exact .inl (.inl ⟨_, by rw [gd.isI], k _ H (gd.addI _)⟩)
  · cases e
    exact .inl (.inr ⟨_, by rw [gd.isB], k _ H (gd.addI _)⟩)
  · rename_i y
    split at e
    · rename_i n q
      split at e
      · rename_i hz
        cases e
        exact .inr ⟨y, n, by rw [gd.isS], q, hz, k _ H (gd.addI _)⟩
      · cases e
    · cases e
  · cases e
theorem g_str : G1 c (r1 fun xs H Q => ∃ i : Int, xs = [.int i] ∧ i.natAbs.log2 < 1920 ∧ Q (.str (toString i)) H) oStr := by
  intro H x a T Q d a' e gd k
  unfold oStr at e
  split at e
  · split at e
    · rename_i q
      cases e
      exact ⟨_, by rw [gd.isI], q, k _ H (gd.addS _)⟩
    · cases e
  · cases e
end

/-! ### methods of texts -/
def oSplit (a b : D) : Option (D × D × D) := match a, b with
  | .str x, .str y => if (y.length == 0) = false ∧ x.length + 2 ≤ sizeLine then some (.lst true ((Txt.split x y).map .str), a, b) else none
  | _, _ => none
def oJoin (a b : D) : Option (D × D × D) := match a, b with
  | .str x, .lst _ ds => (match strsOf ds with
    | some ys => if (ys.map (·.length)).sum + ys.length * x.length ≤ 16777216 then some (.str (Txt.join x ys), a, b) else none
    | none => none)
  | _, _ => none
section
variable {X : Cx} {c : Cn} {EX : XW}
theorem strs_good {H : Hp} {R : List Addr} {L : List (V × D)} (g : Good c H R L) : ∀ xs : List Str, Good c H R ((xs.map V.str).zip (xs.map D.str) ++ L)
  | [] => g
  | x :: xs => (strs_good g xs).addS x
/-- a text's method with one argument; the text is reckoned first -/
def evM1 (f : M D) (o : Opn) (g : D → D → Option (D × D × D)) : M D := match o with
  | .tmp h => do
    let a ← f
    match a with
    | .str x => (do
      let b ← h
      let p ← optM (g (.str x) b)
      pure p.1)
    | _ => badM
  | .slot j => do
    let a ← f
    match a with
    | .str x => (do
      let b ← peek j
      let p ← optM (g (.str x) b)
      setq j p.2.2
      pure p.1)
    | _ => badM
theorem TOk.m1 {to te : TE} {r : V → List V → Hp → VK → Prop} {f : M D} {o : Opn} {g : D → D → Option (D × D × D)} (h1 : TOk c EX to f) (h2 : OpnOk c EX te o) (hr : G2 c (fun x y H Q => r x [y] H Q) g) : TOk c EX (tM1 r to te) (evM1 f o g) := fun H σ ρ T Q ft gd p => by
  cases o with
  | tmp h =>
    refine h1 H σ ρ T _ ft gd ((bind_post.mp p).imp (fun a ρ1 q v H1 f1 g1 => ?_) fun _ _ q => q)
    cases a with
    | str x =>
      refine ⟨⟨x, g1.isS⟩, ?_⟩
      refine h2 H1 σ ρ1 ((v, .str x) :: T) _ f1 g1 ((bind_post.mp q).imp (fun b ρ2 q2 u H2 f2 g2 => ?_) fun _ _ q => q.more)
      obtain ⟨pr, e, q3⟩ := opt_post.mp (bind_post.mp q2)
      exact hr H2 v u (.str x) b _ Q pr.1 pr.2.1 pr.2.2 e g2 fun z H3 g3 => q3 z H3 f2 g3.drop1.drop1
    | _ => exact q.elim
  | slot j =>
    refine h1 H σ ρ T _ ft gd ((bind_post.mp p).imp (fun a ρ1 q v H1 f1 g1 => ?_) fun _ _ q => q)
    cases a with
    | str x =>
      refine ⟨⟨x, g1.isS⟩, ?_⟩
      cases h2
      obtain ⟨b, e, h4⟩ := peek_post.mp (bind_post.mp q)
      obtain ⟨pr, e2, h5⟩ := opt_post.mp (bind_post.mp h4)
      have ⟨hx, h6⟩ := setq_post (bind_post.mp h5)
      obtain ⟨u, k⟩ := f1.has j b e
      exact ⟨u, k, hr H1 v u (.str x) b _ Q pr.1 pr.2.1 pr.2.2 e2 (slot_out (T := (v, .str x) :: T) g1 e k) fun z H3 g3 => h6 z H3 (f1.put k hx) (slot_in (T := (z, pr.1) :: T) (g3.sub (((List.sublist_cons_self _ _).cons_cons _).cons_cons _)).swap (ltE e) k)⟩
    | _ => exact q.elim
theorem g_split : G2 c (fun x y H Q => ∃ a b, x = .str a ∧ [y] = [.str b] ∧ (b.length == 0) = false ∧ a.length + 2 ≤ sizeLine ∧ rNewStrs (Txt.split a b) H Q) oSplit := by
  intro H x y a b T Q d a' b' e gd k
  unfold oSplit at e
  split at e
  · split at e
    · rename_i s u q
      cases e
      refine ⟨s, u, gd.tail.isS, by rw [gd.isS], q.1, q.2, fun p hp => k _ _ ?_⟩
      exact (strs_good gd (Txt.split s u)).newL (by rw [List.length_map, List.length_map]) hp (by simp)
    · cases e
  · cases e
theorem g_join : G2 c (fun x y H Q => ∃ a p, ∃ ys : List Str, x = .str a ∧ [y] = [.ref p] ∧ (SqL c.K H p (ys.map V.str) ∨ SqT c.K H p (ys.map V.str)) ∧
    (ys.map (·.length)).sum + ys.length * a.length ≤ 16777216 ∧ Q (.str (Txt.join a ys)) H) oJoin := by
  intro H x y a b T Q d a' b' e gd k
  unfold oJoin at e
  split at e
  · rename_i s o ds
    split at e
    · rename_i ys q
      split at e
      · rename_i z
        cases e
        obtain ⟨Z2, p3, vs3, f3, ev3, hr3, hl3, r3⟩ := gd.lst
        have es := strsOf_ok r3 q
        subst es
        exact ⟨s, p3, ys, gd.tail.isS, by rw [ev3], .inl (.inl hr3), z, k _ H (gd.addS _)⟩
      · cases e
    · cases e
  · cases e

/-! ### methods that change an own list: xs.append(e), xs.pop(i), xs.pop() -/
def appM (i : Nat) (f : M D) : M D := do
  let a0 ← peek i
  match a0 with
  | .lst _ _ => (do
    let d ← f
    let a ← peek i
    match a with
    | .lst true xs => if xs.length < sizeLine then (do { setv i (some (.lst true (xs ++ [d]))); pure .non }) else badM
    | _ => badM)
  | _ => badM
theorem TOk.append {i : Nat} {t : TE} {f : M D} (h : TOk c EX t f) : TOk c EX (tBM c.K "list" rAppend (tVar i) (tCons t tNil)) (appM i f) := fun H σ ρ T Q ft gd p => by
  obtain ⟨a0, e0, p1⟩ := peek_post.mp (bind_post.mp p)
  obtain ⟨v, k⟩ := ft.has i a0 e0
  cases a0 with
  | lst o0 xs0 =>
    obtain ⟨Z, q0, vs0, f0, ev0, hr0, _, _⟩ := (slot_out gd e0 k).lst
    refine ⟨v, k, ?_, ?_⟩
    · rw [ev0]
      exact .inl ⟨rfl, vs0, .inl hr0⟩
    · refine h H σ ρ T _ ft gd ((bind_post.mp p1).imp (fun d ρ1 q u H1 f1 g1 => ?_) fun _ _ q => q)
      obtain ⟨a, e, q1⟩ := peek_post.mp (bind_post.mp q)
      cases a with
      | lst o xs =>
        cases o with
        | true =>
          by_cases hz : xs.length < sizeLine
          · simp only [hz, if_true] at q1
            have q2 := bind_post.mp q1
            rw [setv_post] at q2
            obtain ⟨pp, vs, ev, hp, hl, g2⟩ := ((slot_out (T := (u, d) :: T) g1 e k).swap).push
            refine ⟨pp, vs, u, ev, rfl, hp, by omega, q2 _ _ (f1.put k (by intro z; cases z)) ?_⟩
            exact (slot_in g2 (ltE e) k).addN
          · simp only [hz, if_false] at q1
            exact q1.elim
        | false => exact q1.elim
      | _ => exact q1.elim
  | _ => exact p1.elim
/-- xs[i] = e -/
def setIx (i : Nat) (f h : M D) : M Flw := do
  let d ← f
  let _ ← peek i
  let b ← h
  let a ← peek i
  match a, b with
  | .lst true xs, .int n => (match ixN xs.length n with
    | some k => (do
      setv i (some (.lst true (xs.set k d)))
      pure .nx)
    | none => badM)
  | _, _ => badM
theorem SOk.setIx {i : Nat} {t ti : TE} {f h : M D} (h1 : TOk c EX t f) (h2 : TOk c EX ti h) : SOk c EX [] (tAsg t (gSub (tVar i) ti rSetL)) (setIx i f h) := fun H σ ρ T Dn ft gd p => by
  refine h1 H σ ρ T _ ft gd ((bind_post.mp p).imp (fun d ρ1 q v H1 f1 g1 => ?_) fun _ _ q => q σ .refl)
  obtain ⟨a0, e0, q1⟩ := peek_post.mp (bind_post.mp q)
  obtain ⟨u, k⟩ := f1.has i a0 e0
  refine ⟨u, k, ?_⟩
  refine h2 H1 σ ρ1 ((v, d) :: T) _ f1 g1 ((bind_post.mp q1).imp (fun b ρ2 q2 w H2 f2 g2 => ?_) fun _ _ q => (q σ .refl).more)
  obtain ⟨a, e, q3⟩ := peek_post.mp (bind_post.mp q2)
  match a, b, q3, e, g2 with
  | .lst true xs, .int n, q3, e, g2 =>
    cases q4 : ixN xs.length n with
    | none =>
      simp only [q4] at q3
      exact q3.elim
    | some j =>
      simp only [q4] at q3
      have q5 := bind_post.mp q3
      rw [setv_post] at q5
      have ew := g2.isI
      have g3 : Good c H2 [] ((u, .lst true xs) :: ((v, d) :: T ++ sl σ (ρ2.set i none))) := slot_out (T := (v, d) :: T) g2.tail e k
      obtain ⟨p, vs, ev, hp, hl, g4⟩ := g3.openL
      refine ⟨p, vs, n, j, ev, ew, hp, by rw [hl]; exact q4, q5 σ _ .refl (f2.put k (by intro z; cases z)) ?_⟩
      have hj : j < xs.length := (ixN_seq q4).2.1
      have hlj : (vs.set j v).length = (xs.set j d).length := by rw [List.length_set, List.length_set, hl]
      have g5 : Good c H2 [p] ((vs.set j v).zip (xs.set j d) ++ (T ++ sl σ (ρ2.set i none))) := by
        have pm : ((vs.set j v).zip (xs.set j d)).Perm ((v, d) :: (vs.eraseIdx j).zip (xs.eraseIdx j)) := by
          have z := zip_at (vs := vs.set j v) (ds := xs.set j d) (k := j) (x := v) (d := d) (List.getElem?_set_self (by omega)) (List.getElem?_set_self hj)
          rw [List.eraseIdx_set_eq, List.eraseIdx_set_eq] at z
          exact z
        obtain ⟨x0, hx0⟩ : ∃ x, vs[j]? = some x := ⟨vs[j]'(by omega), List.getElem?_eq_getElem (by omega)⟩
        obtain ⟨d0, hd0⟩ : ∃ x, xs[j]? = some x := ⟨xs[j], List.getElem?_eq_getElem hj⟩
        have g6 := g4.perm (List.Perm.append_right _ (zip_at hx0 hd0))
        have g7 : Good c H2 [p] ((vs.eraseIdx j).zip (xs.eraseIdx j) ++ ((v, d) :: (T ++ sl σ (ρ2.set i none)))) := g6.tail
        refine g7.perm ?_
        exact (List.perm_middle).trans (List.Perm.append_right _ pm.symm)
      have g8 := g5.closeL hlj (.inr (by rw [hp]; trivial))
      rw [← ev] at g8
      exact slot_in g8 (ltE e) k
end
end Mir
end
section
set_option Elab.async false
set_option linter.all false
set_option maxRecDepth 100000
set_option maxHeartbeats 2000000
/-! Mir8: signs of a text walked; signs of numbers. -/
namespace Mir
open PySem PySem.Spec PyProof.Rows L2

def oNeg (a : D) : Option (D × D) := match a with
  | .int i => some (.int (-i), a)
  | _ => none
def oIPlus (a b : D) : Option (D × D × D) := match oAdd a b with
  | some p => some p
  | none => oCatS a b
section
variable {X : Cx} {c : Cn} {EX : XW}
theorem g_neg : G1 c (rU fun i => .int (-i)) oNeg := by
  intro H x a T Q d a' e gd k
  unfold oNeg at e
  split at e
  · cases e
    exact ⟨_, gd.isI, k _ H (gd.addI _)⟩
  · cases e
theorem g_iplus : G2 c (fun x y H Q => (∃ i j, x = .int i ∧ y = .int j ∧ Q (.int (i + j)) H) ∨ (rCatS x y H Q)) oIPlus := G2.or g_add g_catS
theorem TOk.un {t : TE} {o : Opn} {r : V → Hp → VK → Prop} {g : D → Option (D × D)} (h : OpnOk c EX t o) (hr : G1 c r g) : TOk c EX (tUn r t) (ev1 o g) := TOk.op1 (t := t) (r := r) h hr
def signsD (z : Str) : List D := z.cps.toList.map fun x => D.str ⟨#[x]⟩
def forS (f : M D) (tg : D → M Unit) (body : M Flw) : M Flw := do
  let d ← f
  match d with
  | .str z => loopM tg body (signsD z)
  | _ => badM
theorem SOk.forS {W W' : List Nat} {t : TE} {g : TG} {tb : TS} {f : M D} {tg : D → M Unit} {body : M Flw} (ht : TOk c EX t f) (hg : GOk c W g tg) (hb : SOk c EX W' tb body) : SOk c EX (W ++ W') (tFor (iStr t) g tb) (forS f tg body) := fun H σ ρ T Dn ft gd p => by
  refine ht H σ ρ T _ ft gd ((bind_post.mp p).imp (fun d ρ1 q v H1 f1 g1 => ?_) fun _ _ q => q σ .refl)
  cases d with
  | str z =>
    refine ⟨z, g1.isS, ?_⟩
    refine for_it walk_str (fun k σ' H' => ∃ ρ', Agr (W ++ W') σ σ' ∧ Fit c σ' ρ' ∧ Good c H' [] (T ++ sl σ' ρ') ∧
      OPost (FPost c (W ++ W') T σ Dn) (XPostS c EX (W ++ W') T σ) (loopM tg body ((signsD z).drop k) ρ')) ⟨ρ1, .refl, f1, g1.tail, q⟩ (fun _ _ _ _ _ => trivial) (fun k x σ' H' H2 hk h hy => ?_) (fun σ' H' h => ?_)
    · obtain ⟨ρ', ag, f', g', p'⟩ := h
      obtain ⟨e1, cc, hc, e2⟩ := hy
      subst e1 e2
      have hd : (signsD z)[k]? = some (D.str ⟨#[cc]⟩) := by
        unfold signsD
        rw [List.getElem?_map, Array.getElem?_toList, hc]
        rfl
      rw [drop_at hd] at p'
      exact turn_ok hg hb (U := []) (T := T) (σ0 := σ) (D := Dn) f' (g'.addS _) ag p' fun σ2 H2 ρ2 ag2 f2 g2 p2 => ⟨ρ2, ag2, f2, g2, p2⟩
    · obtain ⟨ρ', ag, f', g', p'⟩ := h
      rw [List.drop_eq_nil_of_le (by unfold signsD; rw [List.length_map, Array.length_toList]; exact Nat.le_refl _)] at p'
      exact p' σ' H' ag f' g'
  | _ => exact q.elim
end
end Mir
end
section
set_option Elab.async false
set_option linter.all false
set_option maxRecDepth 100000
set_option maxHeartbeats 4000000
/-! Err0: an own error whose __init__ says super().__init__(text) and stores its fields: what its call leaves. -/
namespace MirE
open PySem PySem.W PySem.Calls PyProof.Rows PySem.HandSPX
abbrev veInit : String := "ValueError.__init__"
/-- the statements of such an __init__ -/
def sup (me : PySem.Expr) (p1 p2 p3 p4 p5 : Pos) : Stmt := .Expr (.Call (.Attribute (.Call (.Name "super" p1) [] [] p2) "__init__" p3) [me] [] p4) p5
def sto (f : Str) (p1 p2 p3 p4 : Pos) : Stmt := .Assign [.Attribute (.Name "self" p1) f p2] (.Name f p3) p4
section
variable {prog : Program} {w : World} {A : Around} {E : Value → Shared → Prop} {K : Frag} {x C L f cda cc : Addr} {q : Str} {scope : Scope} {m mg mb : Str → Option Value} {body : List Stmt}
theorem one_size (v : Value) : [v].length ≤ sizeLine := by
  rw [sizeLine_eq]
  exact (by decide : 1 ≤ 16777216)
theorem ns_keep {h h' : Heap} {m : Str → Option Value} (hn : h.Ns L m) (k : ∀ o, h.get? L = some o → h'.get? L = some o) : h'.Ns L m := by
  obtain ⟨oL, es, ep, hL, r⟩ := hn
  exact ⟨oL, es, ep, k _ hL, r⟩
theorem sup_step {s : Shared} {me : PySem.Expr} {p1 p2 p3 p4 p5 : Pos} {Q : Flow → Shared → Prop} {t0 : Addr} {ccl cl : Value} {cdd cld : Option Addr} {vs : Array Value} {ccs csl osl : Array (Option Value)} {file msg : Str} {tf : Tok} {fd : FuncData} {oc : Value} {od : Option Addr} {ar : Arg} {cdC : ClassData}
    (X : K.In s.heap) (hn : s.heap.Ns L m) (hv : m "self" = some (.ref x)) (hx : s.heap.get? x = some (excO C t0)) (hxL : x ≠ L) (G : s.heap.Ns mainGlobals mg) (hS : mg "super" = none) (B : s.heap.Ns builtinsNs mb) (hSb : mb "super" = some (.type "super"))
    (hf : K.lookup f = some ⟨oc, od, .func fd, osl⟩) (hp : (fd.params.posonlyargs ++ fd.params.args).head? = some ar) (har : ar.arg = "self")
    (hcode : K.lookup cda = some ⟨ccl, cdd, .fields vs, ccs⟩) (hvs : vs[2]? = some (.str file tf)) (hfile : ((prog.main.file : Str) == file) = true) (hcell : K.lookup cc = some ⟨cl, cld, .cell (some (.ref C)), csl⟩)
    (hC : clsIn K C = some cdC) (hsub : mroIn K C (.ref C) = some true) (hB : subIn K (.ref C) (.type "ValueError") = some true) (hm : ks_superIn K C C "__init__" = some (some (.builtin veInit))) (ho : nsIn K cStatics "thirdparty.any" = some none)
    (hex : excInitIn K C veTail "ValueError.__new__" = true)
    (hks : scope.names.lookup ("super" : Str) = some .globalImplicit) (hkc : scope.names.lookup ("__class__" : Str) = some .free) (hka : scope.names.lookup ("self" : Str) = some .local) (hk : scope.kind = .function)
    (htop : (prog.main.scope.names.lookup ("super" : Str)).isSome = false)
    (he : ∀ (s1 : Shared) (Q1 : Value → Shared → Prop), s1.heap.Ns L m → (∀ tk tk', Q1 (.str msg tk) { s1 with toks := tk' }) → wpAny (model prog w) A (eval me (ksEnv q scope L f (.ref cda) cc)) Q1 E s1)
    (hse : starEach [me] (ksEnv q scope L f (.ref cda) cc) = [(false, eval me (ksEnv q scope L f (.ref cda) cc))])
    (hsw : swapsWith (.Call (.Attribute (.Call (.Name "super" p1) [] [] p2) "__init__" p3) [me] [] p4) none p5.line (ksEnv q scope L f (.ref cda) cc) = pure false)
    (hin : interactive (ksEnv q scope L f (.ref cda) cc) = false) {pl : Sem Bool}
    (hev : eval (.Call (.Attribute (.Call (.Name "super" p1) [] [] p2) "__init__" p3) [me] [] p4) (ksEnv q scope L f (.ref cda) cc) = (do
      let ov ← attributeBase (.Call (.Name "super" p1) [] [] p2) "__init__" (ksEnv q scope L f (.ref cda) cc) (eval (.Call (.Name "super" p1) [] [] p2) (ksEnv q scope L f (.ref cda) cc))
      standAt p3.atName
      let (g, first) ← holding [ov] (getMethod ov "__init__" pl)
      callWith p4 g first (backTo p4 (starEach [me] (ksEnv q scope L f (.ref cda) cc))) []))
    (hq : ∀ h' tk t1, (∀ b o, b ≠ x → s.heap.get? b = some o → h'.get? b = some o) → h'.get? x = some (excO C t1) → h'.Ns L m → Q .next { s with heap := h', toks := tk }) :
    _root_.PySem.wpAt (model prog w) A (.func body (ksEnv q scope L f (.ref cda) cc)) (exec (sup me p1 p2 p3 p4 p5) (ksEnv q scope L f (.ref cda) cc)) Q E s := by
  refine ks_wpAt_Expr_any ?_ hin hsw
  refine ks_wpAt_MethodCall (pl := pl) ?_ hev
  obtain ⟨hh, g, d, t, os⟩ := s
  obtain ⟨oD, hD1, hD2⟩ : ∃ oD, hh.get? C = some oD ∧ oD.data = .cls cdC := by
    unfold clsIn at hC
    split at hC
    · rename_i c d cd' sl ho
      cases hC
      exact ⟨_, X _ _ ho, rfl⟩
    · cases hC
  have I : InstAt hh x (excO C t0) C none := ⟨hx, rfl, rfl, trivial⟩
  refine ks_wpAt_super_base (env := ksEnv q scope L f (.ref cda) cc) hks hkc (by decide) rfl (X _ _ hf) rfl hp rfl (X _ _ hcode) rfl hvs hfile htop ?_
  refine ks_loadName_global hk hks (loadGlobal_builtin (env := ksEnv q scope L f (.ref cda) cc) G hS B hSb ⟨rfl, ?_⟩)
  refine wpAny_loadName_free hk hkc rfl ⟨_, X _ _ hcell, rfl⟩ ?_
  rw [har]
  refine wpAny_loadName_local hk hka hn hv ?_
  refine ks_wpAny_isType_cls hD1 hD2 ⟨rfl, ?_⟩
  refine ks_wpAny_call_super hD1 hD2 hx rfl (fun c e => nomatch e) (looks_mroIn X hsub) (fun h1 e1 k1 => ?_)
  -- the bound __init__
  have X1 : K.In h1 := X.keeps k1
  have hI : Looks (model prog w) h1 (isInstance (.ref x) (.type "ValueError")) true := (show InstAt h1 x (excO C t0) C none from ⟨k1 _ _ hx, rfl, rfl, trivial⟩).type.andThen (looks_subIn X1 hB)
  unfold ks_superIn at hm
  rw [hC] at hm
  refine kxs_getMethod kxs_ValueError e1 (looks_opaque X1 ho) (l₀ := cdC.mro) ?_ rfl X1 hm hI (ks_ne X I hC) (by decide) ?_
  · exact fun A Q E s k q => wpAny_bind ((looks_clsIn X1 hC) A _ E s k (wpAny_pure q))
  have hu : (h1.push (kxs_mw veInit x)).get? h1.objs.size = some (kxs_mw veInit x) := Heap.get?_push_at rfl rfl
  have k2 : ∀ b o, hh.get? b = some o → (h1.push (kxs_mw veInit x)).get? b = some o := fun b o e => Heap.get?_push_of_some _ (k1 b o e)
  have n2 : (h1.push (kxs_mw veInit x)).Ns L m := ns_keep hn fun o e => k2 _ _ e
  refine kxs_callWith (i := veInit) (x := x) (by rw [hse]; rfl) ?_
  rw [hse]
  show wpAny _ _ (evalArgs (.ref h1.objs.size) true ((false, eval me (ksEnv q scope L f (.ref cda) cc)) :: []) []) _ _ _
  refine evalArgs_plain (spliced_cons (he _ _ n2 fun tk tk' => spliced_nil ⟨hu, ?_⟩))
  show wpAny _ _ (call (.ref h1.objs.size) [.str msg tk]) _ _ _
  obtain ⟨nm, N', qn, bs, bm, hdct, sn, sub, ab, col, dd, k0, k1', k2', k3, k5, hC3, hT⟩ := excInit_of (X1.keeps fun b o e => Heap.get?_push_of_some _ e) hex
  have hx2 := k2 _ _ hx
  refine wpAny_call (codeAny_of_tree ?_)
  show wpAny _ A.in1 (callAny (.ref h1.objs.size) ⟨[.str msg tk], []⟩) _ _ _
  simp only [callAny]
  refine wpAny_bind (wpAny_load hu ?_)
  simp only [kxs_mw, show (Value.type "method-wrapper" == Value.type "method" || Value.type "method-wrapper" == Value.type "builtin_function_or_method" || Value.type "method-wrapper" == Value.type "method-wrapper") = true by decide, if_true]
  refine KFB.if_so (by decide) ?_
  refine wpAny_bind (check_bound_init F.excBase_ValueError.toExcCallFacts hC3 hx2 rfl ?_)
  refine wpAny_bind (wpAny_pure (wpAny_pure ?_))
  refine ⟨plainId_quiet F.excBase_ValueError.init.plain _, codeAny_builtin F.excBase_ValueError.initEntry ?_⟩
  refine exc_init_tree (cls := .ref C) (t0 := t0) (dv := none) (c2 := .none) (c3 := .none) (b4 := .bool false) hx2 (one_size _) fun h' kk e' t' => ?_
  exact hq h' _ _ (fun b o hb e => kk b o hb (k2 b o e)) e' (ns_keep n2 fun o e => kk L o (Ne.symm hxL) e)

theorem ldK {s : Shared} {y : Str} {pos : Pos} {v : Value} {Q : Value → Shared → Prop} (hn : s.heap.Ns L m) (hv : m y = some v) (hk : scope.kind = .function) (hl : scope.names.lookup y = some .local) (hd : (y == ("__debug__" : Str)) = false) (h : Q v s) :
    wpAny (model prog w) A (eval (.Name y pos) (ksEnv q scope L f (.ref cda) cc)) Q E s := wpAny_Name (wpAny_loadName_local hk hl hn hv h) hd
/-- self.f = f, the first one -/
theorem sto_first {s : Shared} {g : Str} {p1 p2 p3 p4 : Pos} {v : Value} {t0 : Addr} {cd : ClassData} {Q : Flow → Shared → Prop} (X : K.In s.heap) (hn : s.heap.Ns L m) (hx : s.heap.get? x = some (excO C t0)) (hself : m "self" = some (.ref x)) (hg : m g = some v)
    (hk : scope.kind = .function) (hka : scope.names.lookup ("self" : Str) = some .local) (hkg : scope.names.lookup g = some .local) (hgd : (g == ("__debug__" : Str)) = false)
    (sa : findIn K (.ref C) "__setattr__" = some (some (.builtin "object.__setattr__"))) (hcd : clsIn K C = some cd) (hm : refsVE cd.mro = true) (hh : cd.hasDict = true) (ha : findIn K (.ref C) g = some none)
    (hsw : swapsWith (.Name g p3) (some (.Attribute (.Name "self" p1) g p2)) p4.line (ksEnv q scope L f (.ref cda) cc) = pure false)
    (hq : ∀ h' tk dx, (∀ b o, b ≠ x → s.heap.get? b = some o → h'.get? b = some o) → s.heap.objs.size ≤ dx → dx ≠ x → h'.get? x = some { cls := .ref C, dict := some dx, data := .fields #[.ref t0, .none, .none, .none, .bool false, .none] } →
      h'.Ns1 dx (fun y => if y = g then some v else none) → Q .next { s with heap := h', toks := tk }) :
    wpAny (model prog w) A (exec (sto g p1 p2 p3 p4) (ksEnv q scope L f (.ref cda) cc)) Q E s := by
  refine plainObj_wpAny_Assign_Attribute (ldK hn hg hk hkg hgd (ldK hn hself hk hka (by decide) ?_)) hsw
  refine set_plain X (ox := excO C t0) (od := none) ⟨hx, rfl, rfl, trivial⟩ sa ?_
  exact exc_osa X hx hcd hm hh ha fun h' tk' dx a b c d e => hq h' tk' dx a b c d e
/-- a further one -/
theorem sto_next {s : Shared} {g : Str} {p1 p2 p3 p4 : Pos} {v : Value} {t0 dx : Addr} {cd : ClassData} {m0 : Str → Option Value} {nl : List Str} {Q : Flow → Shared → Prop} (X : K.In s.heap) (hn : s.heap.Ns L m)
    (hx : s.heap.get? x = some { cls := .ref C, dict := some dx, data := .fields #[.ref t0, .none, .none, .none, .bool false, .none] }) (hns : s.heap.Ns1 dx m0) (hw : PySem.Within m0 nl) (hz : nl.length ≤ 1000) (hself : m "self" = some (.ref x)) (hg : m g = some v)
    (hk : scope.kind = .function) (hka : scope.names.lookup ("self" : Str) = some .local) (hkg : scope.names.lookup g = some .local) (hgd : (g == ("__debug__" : Str)) = false)
    (sa : findIn K (.ref C) "__setattr__" = some (some (.builtin "object.__setattr__"))) (hcd : clsIn K C = some cd) (hm : refsVE cd.mro = true) (hh : cd.hasDict = true) (ha : findIn K (.ref C) g = some none)
    (hsw : swapsWith (.Name g p3) (some (.Attribute (.Name "self" p1) g p2)) p4.line (ksEnv q scope L f (.ref cda) cc) = pure false)
    (hq : ∀ h' tk, (∀ b o, b ≠ dx → s.heap.get? b = some o → h'.get? b = some o) → h'.Ns1 dx (fun y => if y = g then some v else m0 y) → Q .next { s with heap := h', toks := tk }) :
    wpAny (model prog w) A (exec (sto g p1 p2 p3 p4) (ksEnv q scope L f (.ref cda) cc)) Q E s := by
  refine plainObj_wpAny_Assign_Attribute (ldK hn hg hk hkg hgd (ldK hn hself hk hka (by decide) ?_)) hsw
  obtain ⟨oD, esD, epD, hoD, hdD, _⟩ := hns.count hw
  refine set_plain X (ox := { cls := .ref C, dict := some dx, data := .fields #[.ref t0, .none, .none, .none, .bool false, .none] }) (od := some oD) ⟨hx, rfl, rfl, hoD⟩ sa ?_
  exact PySem.OEX.osa_old X hx hns hw hz hcd hm hh ha fun h' tk' a b => hq h' tk' a b
end

/-- a dict's names, the last stored ahead -/
def nsF : List (Str × Value) → Str → Option Value
  | [] => fun _ => none
  | (f, v) :: r => fun y => if y = f then some v else nsF r y
theorem nsF_within : ∀ l : List (Str × Value), PySem.Within (nsF l) (l.map (·.1))
  | [] => PySem.Within.nil
  | (f, v) :: r => PySem.Within.cons f v (nsF_within r)
/-- the message: a text, or a text and the first field -/
def MsgAt (me : PySem.Expr) (msg : Str) (f1 : Str) : Bool → Prop
  | false => ∃ i p, me = .Constant (.str msg) i p
  | true => ∃ i p p' p'', me = .BinOp (.Constant (.str msg) i p) .Add (.Name f1 p') p''
def MsgOk (msg : Str) (v1 : Value) : Bool → Prop
  | false => True
  | true => ∃ y t, v1 = .str y t ∧ msg.length + y.length ≤ sizeLine
/-- what the written part says of an own error at C, its __init__ at fI -/
structure ErrTxt (P : Program) (K : Frag) (mg : Str → Option Value) (nm : Str) (fs : List Str) (cat : Bool) (msg : Str) (C fI : Addr) : Prop where
  gC : mg nm = some (.ref C)
  gS : mg "super" = none
  top : (P.main.scope.names.lookup ("super" : Str)).isSome = false
  ex : excInitIn K C veTail "ValueError.__new__" = true
  ve : ∃ cd, clsIn K C = some cd ∧ refsVE cd.mro = true ∧ cd.hasDict = true
  sa : findIn K (.ref C) "__setattr__" = some (some (.builtin "object.__setattr__"))
  ga : findIn K (.ref C) "__getattribute__" = some (some (.builtin "BaseException.__getattribute__"))
  gg : findIn K (.ref C) "__getattr__" = some none
  noN : ∀ f ∈ fs, findIn K (.ref C) f = some none
  iC : findIn K (.ref C) "__init__" = some (some (.ref fI))
  tI : typeIn K (.ref fI) = some (.type "function")
  kC : keepIn K (.ref C) = true
  exC : subIn K (.ref C) (.type "BaseException") = some true
  veC : subIn K (.ref C) (.type "ValueError") = some true
  tyC : typeIn K (.ref C) = some (.type "type")
  hdC : hasDictIn K C = true
  me : mroIn K C (.ref C) = some true
  up : ks_superIn K C C "__init__" = some (some (.builtin veInit))
  cs : nsIn K cStatics "thirdparty.any" = some none
  fn : ∃ (qual : Str) (params : Arguments) (body : List Stmt) (scope : Scope) (dV kV doc pm ct oc ccl cl : Value) (an od cdd cld : Option Addr) (osl ccs csl : Array (Option Value)) (cda cc : Addr) (vs : Array Value) (file : Str) (tf : Tok) (ar : Arg),
    K.lookup fI = some ⟨oc, od, .func (ksFn "__init__" qual params body scope dV kV doc pm an (.ref cda) ct cc), osl⟩ ∧ codeIn K (.ref cda) qual = true ∧ K.lookup cda = some ⟨ccl, cdd, .fields vs, ccs⟩ ∧ vs[2]? = some (.str file tf) ∧ ((P.main.file : Str) == file) = true ∧
    K.lookup cc = some ⟨cl, cld, .cell (some (.ref C)), csl⟩ ∧ (params.posonlyargs ++ params.args).head? = some ar ∧ ar.arg = "self" ∧
    (∀ (s : Shared) (us : List Value), us.length = fs.length + 1 → BindsTo s (ksFn "__init__" qual params body scope dV kV doc pm an (.ref cda) ct cc) ⟨us, []⟩ ((("self" : Str) :: fs).zip us)) ∧
    scope.names.lookup ("super" : Str) = some .globalImplicit ∧ scope.names.lookup ("__class__" : Str) = some .free ∧ (∀ y ∈ ("self" : Str) :: fs, scope.names.lookup y = some .local ∧ (y == ("__debug__" : Str)) = false) ∧ scope.kind = .function ∧
    (∀ y ∈ scope.names, y.2 ≠ .cell) ∧ scope.isCoroutine = false ∧ scope.isGenerator = false ∧ (("self" : Str) :: fs).Nodup ∧
    ∃ me p1 p2 p3 p4 p5, MsgAt me msg (fs.headD "") cat ∧ ((p3 : Pos).endLine == (p4 : Pos).line) = true ∧
      ((∃ f1 q1 q2 q3 q4, fs = [f1] ∧ body = [sup me p1 p2 p3 p4 p5, sto f1 q1 q2 q3 q4]) ∨ ∃ f1 q1 q2 q3 q4 f2 r1 r2 r3 r4, fs = [f1, f2] ∧ body = [sup me p1 p2 p3 p4 p5, sto f1 q1 q2 q3 q4, sto f2 r1 r2 r3 r4])
structure InitEnd (h h' : Heap) (x C : Addr) (fvs : List (Str × Value)) : Prop where
  keep : ∀ b o, b ≠ x → h.get? b = some o → h'.get? b = some o
  obj : ∃ dx t1, h'.get? x = some { cls := .ref C, dict := some dx, data := .fields #[.ref t1, .none, .none, .none, .bool false, .none] } ∧ h.objs.size ≤ dx ∧ dx ≠ x ∧ h'.Ns1 dx (nsF fvs)
structure OwnMade (h h' : Heap) (e C d : Addr) (fvs : List (Str × Value)) : Prop where
  keep : ∀ b o, h.get? b = some o → h'.get? b = some o
  new : h.objs.size ≤ e
  obj : ∃ oe vs, h'.get? e = some oe ∧ oe.cls = .ref C ∧ oe.dict = some d ∧ oe.data = .fields vs ∧ vs[1]? = some .none ∧ vs[2]? = some .none
  dbig : h.objs.size ≤ d
  dne : d ≠ e
  ns : h'.Ns1 d (nsF fvs)
section
variable {P : Program} {w : World} {A : Around} {E : Value → Shared → Prop} {R : Result → Shared → Prop} {s : Shared} {K : Frag} {mg mb : Str → Option Value} {C fI x t0 : Addr} {nm msg : Str} {fs : List Str} {cat : Bool}
theorem msg_eval {q : Str} {scope : Scope} {L f cda cc : Addr} {m : Str → Option Value} {me : PySem.Expr} {f1 : Str} {v1 : Value} (h : MsgAt me msg f1 cat) (k : MsgOk msg v1 cat) (hv : m f1 = some v1) (hk : scope.kind = .function) (hl : scope.names.lookup f1 = some .local) (hd : (f1 == ("__debug__" : Str)) = false) :
    ∃ z : Str, ∀ (s1 : Shared) (Q1 : Value → Shared → Prop), s1.heap.Ns L m → (∀ tk tk', Q1 (.str z tk) { s1 with toks := tk' }) → wpAny (model P w) A (eval me (ksEnv q scope L f (.ref cda) cc)) Q1 E s1 := by
  cases cat with
  | false =>
    obtain ⟨i, p, rfl⟩ := h
    exact ⟨msg, fun s1 Q1 _ q => Calls.Constant_str (q _ _)⟩
  | true =>
    obtain ⟨i, p, p', p'', rfl⟩ := h
    obtain ⟨y, t, rfl, z⟩ := k
    exact ⟨msg ++ y, fun s1 Q1 hn q => wpAny_BinOp (Calls.Constant_str (ldK hn hv hk hl hd (add_str (fun t' tk => q t' tk) z)))⟩

theorem sup_ev {env : PySem.Env} {me : PySem.Expr} {f1 : Str} {p1 p2 p3 p4 : Pos} (h : MsgAt me msg f1 cat) (hp : (p3.endLine == p4.line) = true) :
    ∃ pl : Sem Bool, eval (.Call (.Attribute (.Call (.Name "super" p1) [] [] p2) "__init__" p3) [me] [] p4) env = (do
      let ov ← attributeBase (.Call (.Name "super" p1) [] [] p2) "__init__" env (eval (.Call (.Name "super" p1) [] [] p2) env)
      standAt p3.atName
      let (g, first) ← holding [ov] (getMethod ov "__init__" pl)
      callWith p4 g first (backTo p4 (starEach [me] env)) []) := by
  have hf : methodCallForm 1 (backTo p4 (starEach [me] env)) (backToKw p4 (keywordEach [] env)) = true := by
    cases cat with
    | false => obtain ⟨i, p, rfl⟩ := h; rfl
    | true => obtain ⟨i, p, p', p'', rfl⟩ := h; rfl
  have e : eval (.Call (.Attribute (.Call (.Name "super" p1) [] [] p2) "__init__" p3) [me] [] p4) env = (do
      let ov ← attributeBase (.Call (.Name "super" p1) [] [] p2) "__init__" env (eval (.Call (.Name "super" p1) [] [] p2) env)
      standAt p3.atName
      methodCall (.Call (.Name "super" p1) [] [] p2) "__init__" p3 p4 env ov 1 (backTo p4 (starEach [me] env)) (backToKw p4 (keywordEach [] env))) := by
    cases cat with
    | false => obtain ⟨i, p, rfl⟩ := h; rfl
    | true => obtain ⟨i, p, p', p'', rfl⟩ := h; rfl
  refine ⟨do return (← importBound (.Call (.Name "super" p1) [] [] p2) env).getD true, e.trans ?_⟩
  unfold methodCall methodCallPos calleeOf
  simp only [hf, hp, Bool.not_true, Bool.false_or, if_true]
  rfl
theorem sup_st {env : PySem.Env} {me : PySem.Expr} {f1 : Str} (h : MsgAt me msg f1 cat) : starEach [me] env = [(false, eval me env)] := by
  cases cat with
  | false => obtain ⟨i, p, rfl⟩ := h; rfl
  | true => obtain ⟨i, p, p', p'', rfl⟩ := h; rfl
theorem sup_sw {env : PySem.Env} {me : PySem.Expr} {f1 : Str} {p1 p2 p3 p4 : Pos} {n : Nat} (h : MsgAt me msg f1 cat) : swapsWith (.Call (.Attribute (.Call (.Name "super" p1) [] [] p2) "__init__" p3) [me] [] p4) none n env = pure false := by
  cases cat with
  | false => obtain ⟨i, p, rfl⟩ := h; rfl
  | true => obtain ⟨i, p, p', p'', rfl⟩ := h; rfl
theorem err_init (T : ErrTxt P K mg nm fs cat msg C fI) {vs : List Value} (hl : vs.length = fs.length) (hv : ∀ v1, vs.head? = some v1 → MsgOk msg v1 cat) (X : K.In s.heap) (hlim : s.heap.NoLimit) (G : s.heap.Ns mainGlobals mg) (B : s.heap.Ns builtinsNs mb) (hSb : mb "super" = some (.type "super"))
    (hx : s.heap.get? x = some (excO C t0)) (hnx : K.lookup x = none) (hroom : A.depth < recursionLimit)
    (hq : ∀ h' tk, InitEnd s.heap h' x C (fs.zip vs).reverse → R (.ok (.ret .none)) { s with heap := h', toks := tk }) :
    codeAny (model P w) A (.call (.ref fI) ⟨.ref x :: vs, []⟩) R s := by
  obtain ⟨qual, params, body, scope, dV, kV, doc, pm, ct, oc, ccl, cl, an, od, cdd, cld, osl, ccs, csl, cda, cc, cvs, file, tf, ar, hf, hcd, hcode, hvs, hfile, hcell, hp, har, hbind, hks, hkc, hloc, hk, hnc, hco, hgen, hnod, me, p1, p2, p3, p4, p5, hme, hpos, hb⟩ := T.fn
  obtain ⟨cd, hC, hve, hhd⟩ := T.ve
  have hself := hloc "self" List.mem_cons_self
  have hbs := hbind s (.ref x :: vs) (by rw [List.length_cons, hl])
  refine ks_codeAny_call_defAt (fd := ksFn "__init__" qual params body scope dV kV doc pm an (.ref cda) ct cc) (body := body) (binds := (("self" : Str) :: fs).zip (.ref x :: vs)) hroom (X _ _ hf) rfl hlim (codeRec_of X hcd) rfl hbs hnc
    (fun y hy => (hloc y.1 (List.of_mem_zip hy).1).1) (fun h₁ hn hk₁ => ?_) hco hgen hk
  have X1 : K.In h₁ := X.keeps hk₁
  have x1 := hk₁ _ _ hx
  have hxL : x ≠ s.heap.objs.size := Nat.ne_of_lt (Heap.lt_size hx)
  have G1 : h₁.Ns mainGlobals mg := G.keeps hk₁
  have B1 : h₁.Ns builtinsNs mb := B.keeps hk₁
  have sz : s.heap.objs.size ≤ h₁.objs.size := Nat.le_of_lt hn.lt
  have Xb : ∀ {h' : Heap}, (∀ b o, b ≠ x → h₁.get? b = some o → h'.get? b = some o) → K.In h' := fun k a o e => k a o (fun z => by rw [z, hnx] at e; cases e) (X1 a o e)
  show _root_.PySem.wpAt (model P w) (A.deeper (ksEnv qual scope s.heap.objs.size fI (.ref cda) cc)) (.func body (ksEnv qual scope s.heap.objs.size fI (.ref cda) cc)) (execs body (ksEnv qual scope s.heap.objs.size fI (.ref cda) cc)) _ _ _
  obtain ⟨pl, hev⟩ := sup_ev (env := ksEnv qual scope s.heap.objs.size fI (.ref cda) cc) (p1 := p1) (p2 := p2) (p3 := p3) (p4 := p4) hme hpos
  have hst := sup_st (env := ksEnv qual scope s.heap.objs.size fI (.ref cda) cc) hme
  have hsw := sup_sw (env := ksEnv qual scope s.heap.objs.size fI (.ref cda) cc) (p1 := p1) (p2 := p2) (p3 := p3) (p4 := p4) (n := p5.line) hme
  rcases hb with ⟨f1, q1, q2, q3, q4, rfl, rfl⟩ | ⟨f1, q1, q2, q3, q4, f2, r1, r2, r3, r4, rfl, rfl⟩
  · match vs, hl with
    | [v1], _ =>
      have n1 : ¬ ("self" : Str) = f1 := fun z => (List.nodup_cons.mp hnod).1 (by rw [z]; exact List.mem_cons_self)
      have l1 := hloc f1 (List.mem_cons_of_mem _ List.mem_cons_self)
      have mS : List.lookup ("self" : Str) ((([("self" : Str), f1] : List Str).zip [Value.ref x, v1]).reverse) = some (Value.ref x) := by
        have e : (("self" : Str) == f1) = false := by simpa using n1
        simp [List.lookup, e]
      have m1 : List.lookup f1 ((([("self" : Str), f1] : List Str).zip [Value.ref x, v1]).reverse) = some v1 := by simp [List.lookup]
      obtain ⟨z, hz⟩ := msg_eval (P := P) (w := w) (A := A.deeper (ksEnv qual scope s.heap.objs.size fI (.ref cda) cc)) (E := fun e s' => wpAny (model P w) (A.deeper (ksEnv qual scope s.heap.objs.size fI (.ref cda) cc)) (leaving (ksEnv qual scope s.heap.objs.size fI (.ref cda) cc) e) (fun _ s'' => R (.error e) s'') (fun e' s'' => R (.error e') s'') s')
        (q := qual) (scope := scope) (L := s.heap.objs.size) (f := fI) (cda := cda) (cc := cc) (m := fun y => List.lookup y ((([("self" : Str), f1] : List Str).zip [Value.ref x, v1]).reverse)) (f1 := f1) hme (hv v1 rfl) m1 hk l1.1 l1.2
      refine ks_wpAt_execs_cons (sup_step X1 hn mS x1 hxL G1 T.gS B1 hSb hf hp har hcode hvs hfile hcell hC T.me T.veC T.up T.cs T.ex hks hkc hself.1 hk T.top hz hst hsw (by unfold interactive; rw [show (ksEnv qual scope s.heap.objs.size fI (.ref cda) cc).scope.kind = ScopeKind.function from hk]; rfl) hev fun h2 tk2 t1 k2 x2 n2 => ?_)
      refine wpAt_of_wpAny (wpAny_execs_cons (sto_first (Xb k2) n2 x2 mS m1 hk hself.1 l1.1 l1.2 T.sa hC hve hhd (T.noN f1 List.mem_cons_self) rfl fun h3 tk3 dx k3 dn dne x3 hns => ?_))
      refine wpAny_execs_nil (hq h3 tk3 ⟨fun b o hb e => k3 b o hb (k2 b o hb (hk₁ b o e)), dx, t1, x3, ?_, dne, hns⟩)
      have : s.heap.objs.size < h2.objs.size := n2.lt
      have d' : h2.objs.size ≤ dx := dn
      omega
  · match vs, hl with
    | [v1, v2], _ =>
      have n1 : ¬ ("self" : Str) = f1 := fun z => (List.nodup_cons.mp hnod).1 (by rw [z]; exact List.mem_cons_self)
      have n2 : ¬ ("self" : Str) = f2 := fun z => (List.nodup_cons.mp hnod).1 (by rw [z]; exact List.mem_cons_of_mem _ List.mem_cons_self)
      have n3 : ¬ f1 = f2 := fun z => (List.nodup_cons.mp (List.nodup_cons.mp hnod).2).1 (by rw [z]; exact List.mem_cons_self)
      have l1 := hloc f1 (List.mem_cons_of_mem _ List.mem_cons_self)
      have l2 := hloc f2 (List.mem_cons_of_mem _ (List.mem_cons_of_mem _ List.mem_cons_self))
      have e1 : (("self" : Str) == f1) = false := by simpa using n1
      have e2 : (("self" : Str) == f2) = false := by simpa using n2
      have e3 : (f1 == f2) = false := by simpa using n3
      have mS : List.lookup ("self" : Str) ((([("self" : Str), f1, f2] : List Str).zip [Value.ref x, v1, v2]).reverse) = some (Value.ref x) := by
        simp [List.lookup, e1, e2]
      have m1 : List.lookup f1 ((([("self" : Str), f1, f2] : List Str).zip [Value.ref x, v1, v2]).reverse) = some v1 := by simp [List.lookup, e3]
      have m2 : List.lookup f2 ((([("self" : Str), f1, f2] : List Str).zip [Value.ref x, v1, v2]).reverse) = some v2 := by simp [List.lookup]
      obtain ⟨z, hz⟩ := msg_eval (P := P) (w := w) (A := A.deeper (ksEnv qual scope s.heap.objs.size fI (.ref cda) cc)) (E := fun e s' => wpAny (model P w) (A.deeper (ksEnv qual scope s.heap.objs.size fI (.ref cda) cc)) (leaving (ksEnv qual scope s.heap.objs.size fI (.ref cda) cc) e) (fun _ s'' => R (.error e) s'') (fun e' s'' => R (.error e') s'') s')
        (q := qual) (scope := scope) (L := s.heap.objs.size) (f := fI) (cda := cda) (cc := cc) (m := fun y => List.lookup y ((([("self" : Str), f1, f2] : List Str).zip [Value.ref x, v1, v2]).reverse)) (f1 := f1) hme (hv v1 rfl) m1 hk l1.1 l1.2
      refine ks_wpAt_execs_cons (sup_step X1 hn mS x1 hxL G1 T.gS B1 hSb hf hp har hcode hvs hfile hcell hC T.me T.veC T.up T.cs T.ex hks hkc hself.1 hk T.top hz hst hsw (by unfold interactive; rw [show (ksEnv qual scope s.heap.objs.size fI (.ref cda) cc).scope.kind = ScopeKind.function from hk]; rfl) hev fun h2 tk2 t1 k2 x2 nn2 => ?_)
      refine wpAt_of_wpAny (wpAny_execs_cons (sto_first (Xb k2) nn2 x2 mS m1 hk hself.1 l1.1 l1.2 T.sa hC hve hhd (T.noN f1 List.mem_cons_self) rfl fun h3 tk3 dx k3 dn dne x3 hns => ?_))
      have d' : h2.objs.size ≤ dx := dn
      have lt2 : s.heap.objs.size < h2.objs.size := nn2.lt
      have hdn : h₁.get? dx = none := by
        cases e : h₁.get? dx with
        | none => rfl
        | some o =>
          exact absurd (Heap.lt_size (k2 dx o dne e)) (Nat.not_lt.mpr d')
      have n3' : h3.Ns s.heap.objs.size _ := ns_keep nn2 fun o e => k3 _ _ (Ne.symm hxL) e
      refine wpAny_execs_cons (sto_next (m0 := nsF [(f1, v1)]) (nl := [f1]) (s := { s with heap := h3, toks := tk3 }) (Xb fun b o hb e => k3 b o hb (k2 b o hb e)) n3' x3 hns (nsF_within [(f1, v1)]) (by simp) mS m2 hk hself.1 l2.1 l2.2 T.sa hC hve hhd (T.noN f2 (List.mem_cons_of_mem _ List.mem_cons_self)) rfl fun h4 tk4 k4 hns4 => ?_)
      refine wpAny_execs_nil (hq h4 tk4 ⟨fun b o hb e => ?_, dx, t1, k4 _ _ (Ne.symm dne) x3, by omega, dne, hns4⟩)
      have e1' := hk₁ b o e
      exact k4 b o (fun z => by rw [z, hdn] at e1'; cases e1') (k3 b o hb (k2 b o hb e1'))
theorem err_made (T : ErrTxt P K mg nm fs cat msg C fI) {vs : List Value} (hl : vs.length = fs.length) (hz : vs.length ≤ sizeLine) (hv : ∀ v1, vs.head? = some v1 → MsgOk msg v1 cat) (X : K.In s.heap) (hlim : s.heap.NoLimit) (G : s.heap.Ns mainGlobals mg) (B : s.heap.Ns builtinsNs mb) (hSb : mb "super" = some (.type "super"))
    (hroom : A.depth + 1 < recursionLimit)
    (hq : ∀ h' tk e d, OwnMade s.heap h' e C d (fs.zip vs).reverse → R (.ok (.ret (.ref e))) { s with heap := h', toks := tk }) :
    codeAny (model P w) A (.call (.ref C) ⟨vs, []⟩) R s := by
  obtain ⟨nm', N, q, bs, bm, hdct, sn, sub, ab, col, dd, k0, k1, k2, k3, k5, hC, hT⟩ := excInit_of X T.ex
  obtain ⟨hp, g, dr, tk, os⟩ := s
  have k : ∀ b o, hp.get? b = some o → ((hp.push (kdv_tup vs)).push (excO C hp.objs.size)).get? b = some o := fun b o e => Heap.get?_push_of_some _ (Heap.get?_push_of_some _ e)
  have hget : ((hp.push (kdv_tup vs)).push (excO C hp.objs.size)).get? (hp.objs.size + 1) = some (excO C hp.objs.size) := by heap_get
  have hnx : K.lookup (hp.objs.size + 1) = none := by
    cases e : K.lookup (hp.objs.size + 1) with
    | none => rfl
    | some o =>
      have z : hp.get? (hp.objs.size + 1) = some o := X _ _ e
      exact absurd (Nat.lt_of_succ_lt (Heap.lt_size z)) (Nat.lt_irrefl _)
  refine call_own F.excBase_ValueError hT hC (looks_findIn X T.iC) (fun self => bind_fn X self T.tI) hz ?_
  refine err_init (s := ⟨(hp.push (kdv_tup vs)).push (excO C hp.objs.size), g, dr, tk, os⟩) T hl hv (X.keeps k) (hlim.keeps k) (G.keeps k) (B.keeps k) hSb hget hnx ?_ fun h' tk' ⟨k', dx, t1, hx, dn, dne, hns⟩ => ?_
  · show A.depth + 1 < recursionLimit
    exact hroom
  · have old : ∀ b o, hp.get? b = some o → h'.get? b = some o := fun b o e => k' b o (Nat.ne_of_lt (Nat.lt_succ_of_lt (Heap.lt_size e))) (k b o e)
    have z : hp.objs.size + 1 + 1 ≤ dx := by
      first
        | (simpa only [Heap.size_push] using dn)
        | exact dn
        | (have q := dn; rw [Heap.size_push, Heap.size_push] at q; exact q)
    exact ⟨rfl, hq h' tk' (hp.objs.size + 1) dx ⟨old, Nat.le_succ _, ⟨_, _, hx, rfl, rfl, rfl, rfl, rfl⟩, Nat.le_trans (Nat.le_trans (Nat.le_succ _) (Nat.le_succ _)) z, dne, hns⟩⟩
end
end MirE
end
section
set_option Elab.async false
set_option linter.all false
set_option maxRecDepth 100000
set_option maxHeartbeats 4000000
/-! Mir9: own errors: raise, try, what a suite asks of the error that it holds; defs called there. -/
namespace PySem.W
open PySem PySem.Spec PySem.Calls PyProof.Rows
section
variable {prog : Program} {w : World} {A : Around} {E : Value → Shared → Prop} {s : Shared} {K : Frag} {x D : Addr} {ox : Obj} {od : Option Obj}
theorem findObj_dataO {C : Addr} {name : Str} {a g : Value} (hc : (clsIn K C).isSome = true) (ha : findIn K (.ref C) name = some (some a)) (hg : specialIn K a "__get__" = some (some g)) (ht : takesIn K a = some true) : findObj K C od name = some (.bind g a) := by
  obtain ⟨cd, hc⟩ := Option.isSome_iff_exists.mp hc
  unfold findObj
  rw [hc, Option.bind_some, ha, Option.bind_some]
  simp [hg, ht]
theorem kin_classO {Q : Option Value → Shared → Prop} (T : L2.ExcC K D) (X : K.In s.heap) (I : InstAt s.heap x ox D od) (h : Q (some (.ref D)) { s with toks := s.toks + 1 }) : wpAny (model prog w) A (getAttr? (.ref x) "__class__") Q E s := by
  have hf : findObj K D od "__class__" = some (.bind (.builtin "getset_descriptor.__get__") (.builtin "object.__class__")) := findObj_dataO (by obtain ⟨cd, hc, _⟩ := any_some T.hd; rw [hc]; rfl) T.ha T.hn T.ht
  obtain ⟨hp, g, d, t, os⟩ := s
  have L0 := I.type (M := model prog w)
  have L1 := looks_findIn (M := model prog w) X T.hg
  have L2 := looks_findIn (M := model prog w) X T.hk
  have L3 := looks_find (M := model prog w) X I hf
  have sub : Looks (model prog w) hp (isInstance (.ref x) (.type "BaseException")) true := L0.andThen (looks_subIn X T.hs)
  have hx0 : (false && onTheHeap (Value.builtin "BaseException.__getattribute__")) = false := rfl
  have hx2 : (Value.builtin "BaseException.__getattribute__" == Value.builtin "object.__getattribute__") = false := by decide +kernel
  have hx1 : (onTheHeap (Value.ref D) && Value.builtin "BaseException.__getattribute__" == Value.builtin "object.__getattribute__") = false := by rw [hx2]; rfl
  unfold getAttr? getAttrBy? getAttrBy
  refine wpAny_bind (wpAny_mkText (wpAny_bind (wpAny_attempt (wpAny_holding (wpAny_bind (L0.at (wpAny_bind (L1.at ?_))))))))
  show wpAny _ _ (if (onTheHeap (Value.ref D) && Value.builtin "BaseException.__getattribute__" == Value.builtin "object.__getattribute__") = true then _ else _) _ _ _
  rw [hx1, if_neg Bool.false_ne_true]
  unfold getAttrByItsOwn hookBefore
  refine wpAny_bind ?_
  rw [if_pos (show onTheHeap (Value.ref D) = true from rfl)]
  refine L2.at ?_
  refine wpAny_bind (wpAny_attempt (wpAny_holding ?_))
  unfold callGetattribute
  rw [hx0, if_neg Bool.false_ne_true]
  unfold boundAndCalled
  rw [PySem.F.excAttr_ValueError.ga.bind (.ref x)]
  refine wpAny_bind (wpAny_pure ?_)
  show wpAny _ _ (call (.builtin "BaseException.__getattribute__") [.ref x, .str "__class__" t]) _ _ _
  refine wpAny_call (codeAny_call_builtin PySem.F.excAttr_ValueError.ga.plain PySem.F.entry_bexc_ga ?_)
  refine @check_slot (model prog w) _ _ ⟨hp, g, d, t + 1, os⟩ "BaseException.__getattribute__" "BaseException" "__getattribute__" (.ref x) [.str "__class__" t] [] _ (by decide +kernel) (by decide +kernel) sub (PySem.F.args_bexc_ga (.ref x) (.str "__class__" t)) ?_
  unfold Builtin.«object.__getattribute__»
  refine wpAny_bind (wpAny_of_eq (a := ((Value.ref x : Value), [Value.str "__class__" t])) (by first | rfl | (simp only [slotArgs]; rfl)) ?_)
  refine wpAny_bind (wpAny_pure (wpAny_bind (L0.at (wpAny_bind (L3.at ?_)))))
  show wpAny _ _ (holding [Value.builtin "object.__class__"] (call (.builtin "getset_descriptor.__get__") [.builtin "object.__class__", .ref x, .ref D]) >>= ret) _ _ _
  refine wpAny_bind (wpAny_holding (wpAny_call (class_get (s := ⟨hp, g, d, t + 1, os⟩) (ox := ox) (od := od) X I T.hm ?_)))
  refine wpAny_pure ?_
  show wpAny _ _ (handedOut (.ref D)) _ _ _
  rw [handedOut_of (v := .ref D) rfl]
  first
    | exact wpAny_pure (wpAny_pure h)
    | exact wpAny_pure h
    | exact wpAny_pure (wpAny_bind (wpAny_pure (wpAny_pure h)))
theorem kitx_excO (T : L2.ExcC K D) : KitX K (.ref x) (.ref D) (fun h => InstAt h x ox D od) where
  ty := fun _ _ _ I => I.type
  it := fun _ _ X _ => by
    obtain ⟨cdD, hcD, _⟩ := any_some T.hd
    unfold clsIn at hcD
    split at hcD
    · rename_i c' d' cd' sl' ho
      intro A' Q' E' s' k q
      unfold isType loadHead
      exact wpAny_bind (wpAny_loadPart (k _ _ (X _ _ ho)) (wpAny_pure q))
    · cases hcD
  ne := fun h tp dd its n sl X htp => by
    obtain ⟨cdD, hcD, _⟩ := any_some T.hd
    refine Bool.eq_false_iff.mpr fun q => ?_
    have e : D = tp := Value.ref.inj (beq_iff_eq.mp q)
    subst e
    unfold clsIn at hcD
    split at hcD
    · rename_i c' d' cd' sl' ho
      have z := (X _ _ ho).symm.trans htp
      cases z
    · cases hcD
  ca := fun X I k => kin_classO T X I k
end
end PySem.W
namespace L2
open PySem PySem.Spec PyProof.Rows
section
variable {X : Cx} {nm msg : Str} {fs : List Str} {cat : Bool} {C fI : Addr}
/-- C(e, ..): an own error is made -/
def tMkErr (C : Addr) (fs : List Str) (msg : Str) (cat : Bool) (ta : TA) : St → Hp → XK → Prop := fun σ H Q => ta σ H fun vs H1 => vs.length = fs.length ∧ (cat = true → ∃ y r, vs = .str y :: r ∧ msg.length + y.length ≤ sizeLine) ∧
  ∀ d, H1 d = none → Q (.ref C) (some d) (upd H1 d (.xd (fs.zip vs)))
theorem relO_none {o : Option Value} (h : o = none) : RelO none o := by rw [h]; trivial
theorem relO_err (T : MirE.ErrTxt X.prog X.K X.mg nm fs cat msg C fI) {vs : List V} {us : List Value} (r : Vals vs us) (l : vs.length = fs.length) (f : Str) : RelO ((fs.zip vs).lookup f) (MirE.nsF (fs.zip us).reverse f) := by
  obtain ⟨qual, params, body, scope, dV, kV, doc, pm, ct, oc, ccl, cl, an, od, cdd, cld, osl, ccs, csl, cda, cc, cvs, file, tf, ar, hf, hcd, hcode, hvs, hfile, hcell, hp, har, hbind, hks, hkc, hloc, hk, hnc, hco, hgen, hnod, me, p1, p2, p3, p4, p5, hme, hpos, hb⟩ := T.fn
  rcases hb with ⟨f1, q1, q2, q3, q4, rfl, _⟩ | ⟨f1, q1, q2, q3, q4, f2, r1, r2, r3, r4, rfl, _⟩
  · cases r with
    | nil => cases l
    | cons rv rn =>
      cases rn with
      | cons _ _ => cases l
      | nil =>
        by_cases e : f = f1
        · subst e
          simp [List.lookup, MirE.nsF]
          exact rv
        · have e2 : (f == f1) = false := by simpa using e
          simp [List.lookup, MirE.nsF, e, e2]
          trivial
  · have n3 : f1 ≠ f2 := fun z => (List.nodup_cons.mp (List.nodup_cons.mp hnod).2).1 (by rw [z]; exact List.mem_cons_self)
    cases r with
    | nil => cases l
    | cons rv rn =>
      cases rn with
      | nil => cases l
      | cons rw' rn =>
        cases rn with
        | cons _ _ => cases l
        | nil =>
          by_cases e : f = f1
          · subst e
            simp [List.lookup, MirE.nsF, n3]
            exact rv
          · have e2 : (f == f1) = false := by simpa using e
            by_cases e3 : f = f2
            · subst e3
              simp [List.lookup, MirE.nsF, e2]
              exact rw'
            · have e4 : (f == f2) = false := by simpa using e3
              simp [List.lookup, MirE.nsF, e, e2, e3, e4]
              trivial
theorem pmk_err {a : Expr} {es : List Expr} {ta : TA} {p pos : Pos} {k : Nat} (T : MirE.ErrTxt X.prog X.K X.mg nm fs cat msg C fI) (hr : Room k X.A) (ha : PA X (a :: es) ta) (hg : Gl X nm := by rfl) (hdb : (nm == ("__debug__" : Str)) = false := by decide)
    (he : starEach (a :: es) X.env = (false, eval a X.env) :: starEach es X.env := by rfl) (hpl : (backTo pos (starEach es X.env)).any (·.1) = false := by rfl) :
    L2N.PMk X (.Call (.Name nm p) (a :: es) [] pos) (tMkErr C fs msg cat ta) := by
  intro pins s σ H Q I h
  refine wpAny_Call_Name_kw (ld_glob I hg T.gC ?_ hdb)
  refine PySem.W.callWith_K (h₀ := X.base) I.ok.mod.kin T.kC (thn (ha.run pos pins s σ H _ I h) fun us s1 hh => ?_) he hpl
  obtain ⟨vs, H1, I1, r1, l, hm, q1⟩ := hh
  refine ⟨I1.kIn, ?_⟩
  show wpAny _ _ (call (.ref C) us) _ _ _
  have hlim := I1.nolimit
  obtain ⟨mb, hB, hbb⟩ := I1.mod.blt
  have hSb : mb "super" = some (.type "super") := (hbb "super" (by decide)).trans (by first | boot_by_name | rfl | kernel_rfl)
  have hbs := I1.bk
  have hG := I1.mod.glob
  have hl : us.length = fs.length := by rw [← r1.length, l]
  have hmo : ∀ v1, us.head? = some v1 → MirE.MsgOk msg v1 cat := fun v1 e => by
    cases cat with
    | false => trivial
    | true =>
      obtain ⟨y, r, ev, z⟩ := hm rfl
      subst ev
      cases r1 with
      | cons rv _ =>
        obtain ⟨t, ev⟩ := rv
        cases e
        exact ⟨y, t, ev, z⟩
  have hsz : us.length ≤ sizeLine := by
    rw [hl, PySem.sizeLine_eq]
    obtain ⟨qual, params, body, scope, dV, kV, doc, pm, ct, oc, ccl, cl, an, od, cdd, cld, osl, ccs, csl, cda, cc, cvs, file, tf, ar, hf, hcd, hcode, hvs, hfile, hcell, hp, har, hbind, hks, hkc, hloc, hk, hnc, hco, hgen, hnod, me, p1, p2, p3, p4, p5, hme, hpos, hb⟩ := T.fn
    rcases hb with ⟨f1, q1, q2, q3, q4, rfl, _⟩ | ⟨f1, q1, q2, q3, q4, f2, r1, r2, r3, r4, rfl, _⟩
    · show 1 ≤ 16777216
      omega
    · show 2 ≤ 16777216
      omega
  obtain ⟨hp, g, dr, tk, os⟩ := s1
  refine wpAny_call (MirE.err_made (s := ⟨hp, g, dr, tk, os⟩) T hl hsz hmo I1.kIn hlim (hG.keeps hbs) (hB.keeps hbs) hSb (by have := hr.dp; omega) fun h' tk' e d M => ?_)
  show L2N.MkP X pins σ Q (.ref e) ⟨h', g, dr, tk', os⟩
  obtain ⟨oe, fv, hoe, hc, hd, hdat, h1, h2⟩ := M.obj
  have hns := M.ns
  obtain ⟨G', g1, g2⟩ := restrict h' fun b => decide (b ≠ e)
  have gk : ∀ b, b ≠ e → G'.get? b = h'.get? b := fun b hb => g1 b (decide_eq_true hb)
  have ge : G'.get? e = none := g2 e (by simp)
  have old : ∀ b o, hp.get? b = some o → G'.get? b = some o := fun b o q => (gk b (Nat.ne_of_lt (Nat.lt_of_lt_of_le (Heap.lt_size q) M.new))).trans (M.keep b o q)
  have ob : ObjOk X.prog X.w (upd H1 d (.xd (fs.zip vs))) G' d (.xd (fs.zip vs)) :=
    ⟨_, hns.at (fun o q => (gk d M.dne).trans q), fun f => relO_err T r1 l f⟩
  have J : Inv X pins σ (upd H1 d (.xd (fs.zip vs))) ⟨G', g, dr, tk', os⟩ := I1.laid (t' := tk') old M.dbig ob
  refine ⟨e, oe, fv, ⟨G', g, dr, tk', os⟩, _, .ref C, some d, rfl, J, fun b o q => ?_, ge, hoe, ⟨hc, hd, fun vs e => by rw [hdat] at e; cases e; exact h2⟩, hdat, h1, ?_, rfl, I1.bare, raises_own T.exC T.tyC, q1 d (I1.hok.fresh M.dbig)⟩
  · by_cases hb : b = e
    · have q' : G'.get? b = some o := q
      rw [hb, ge] at q'; cases q'
    · exact (gk b hb).symm.trans q
  · rw [upd_ne (Ne.symm M.dne)]
    exact I1.hok.fresh M.new
end
end L2

namespace Mir
open PySem PySem.Spec PyProof.Rows L2
section
variable {c : Cn} {EX : XW}
/-! ### raise -/
def catOk (msg : Str) : List D → Bool
  | .str y :: _ => decide (msg.length + y.length ≤ sizeLine)
  | _ => false
def raiseErr (nm : Str) (fs : List Str) (msg : Str) (cat : Bool) (f : M (List D)) : M Flw := do
  let ds ← f
  if ds.length = fs.length ∧ ((!cat) || catOk msg ds) = true then raiseM ⟨nm, fs, ds⟩ else badM
theorem SOk.raise {nm msg : Str} {fs : List Str} {cat : Bool} {C : Addr} {t : TA} {f : M (List D)} (h : TaOk c EX t f) (hc : c.cls nm = some C) : SOk c EX [] (fun _ σ H => tMkErr C fs msg cat t σ H fun cls d H' => EX σ cls d H') (raiseErr nm fs msg cat f) := fun H σ ρ T Dn ft gd p => by
  refine h H σ ρ T _ ft gd ((bind_post.mp p).imp (fun ds ρ1 q vs H1 l f1 g1 => ?_) fun _ _ q => q σ .refl)
  by_cases k : ds.length = fs.length ∧ ((!cat) || catOk msg ds) = true
  · rw [if_pos k] at q
    have q' : XPostS c EX [] T σ ⟨nm, fs, ds⟩ ρ1 := q
    refine ⟨l.trans k.1, fun hcat => ?_, fun d hd => ?_⟩
    · subst hcat
      have k2 := k.2
      match ds, vs, l, k2, g1 with
      | .str y :: _, v :: r, _, k2, g1 =>
        have e : v = .str y := Good.isS (L := r.zip _ ++ (T ++ sl σ ρ1)) g1
        exact ⟨y, r, by rw [e], of_decide_eq_true k2⟩
    · refine q' σ .refl _ _ _ f1 ⟨C, d, vs, rfl, hc, rfl, upd_same, l, k.1.symm, ?_⟩
      have g2 := (g1.fresh hd (by simp)).step (H' := upd H1 d (.xd (fs.zip vs))) List.mem_cons_self (fun b hb => upd_ne hb) fun xs qq => by
        rcases qq with qq | qq
        · rcases qq with qq | ⟨o, qq⟩ <;> rw [hd] at qq <;> cases qq
        · exact .inr qq
      obtain ⟨Z, fp, h, nd, nz, zt⟩ := g2
      have s : (fp ++ ([] : List Addr)).Sublist (fp ++ [d]) := List.Sublist.append (.refl _) (List.nil_sublist _)
      exact ⟨Z, fp, h, nd.sublist s, fun a ha => nz a (s.subset ha), zt⟩
  · rw [if_neg k] at q
    exact q.elim

/-! ### an error that a suite holds -/
/-- what the written part says of the errors: their classes, fields -/
abbrev ETab := List (Str × List Str)
structure ETxt (K : PySem.W.Frag) (cls : Str → Option Addr) (et : ETab) : Prop where
  ok : ∀ p ∈ et, ∀ A, cls p.1 = some A → ExcC K A ∧ XfC K A ∧ ∀ f ∈ p.2, PySem.W.findIn K (.ref A) f = some none
def Cn.hold (c : Cn) (a dd : Addr) (x : Exn) : Cn := { c with kp := (dd, x.fs, x.xs) :: c.kp, ea := some a }
/-- the exception at a, of the class cls, its dict at d, is x -/
structure Held (c : Cn) (x : Exn) (a : Addr) (cls : Value) (d : Option Addr) : Prop where
  ea : c.ea = some a
  at' : ∃ A dd, cls = .ref A ∧ c.cls x.cls = some A ∧ d = some dd ∧ (dd, x.fs, x.xs) ∈ c.kp
/-- isinstance(error, C) -/
def rIsX (K : PySem.W.Frag) (a : Addr) (cls : Value) (d : Option Addr) : List V → Hp → VK → Prop := fun xs H Q => ∃ (A dd : Addr) (fs : List (Str × V)) (v : V) (cv : Value) (b : Bool), xs = [.ref a, v] ∧ cls = .ref A ∧ d = some dd ∧ ExcC K A ∧ H dd = some (.xd fs) ∧ (∀ u, RelV v u → u = cv) ∧
  PySem.W.kitOne K (.ref A) cv = some b ∧ Q (.bl b) H
theorem xd_inst {X : Cx} {pins : List (Addr × Obj)} {σ : L2.St} {H : Hp} {s : Shared} {a A dd : Addr} {oe : Obj} {fs : List (Str × V)} (I : Inv X pins σ H s) (hp : (a, oe) ∈ X.pn) (hz : Zc (.ref A) (some dd) oe) (hf : ∃ vs, oe.data = .fields vs) (e : H dd = some (.xd fs)) :
    ∃ (od : Obj) (mA : Str → Option Value), PySem.W.InstAt s.heap a oe A (some od) ∧ (∀ name, PySem.W.lookIn name od = some (mA name)) ∧ ∀ f, RelO (fs.lookup f) (mA f) := by
  obtain ⟨ha, _⟩ := I.pin (a, oe) (List.mem_append_left _ hp)
  obtain ⟨vs, hd⟩ := hf
  have hx : ObjOk X.prog X.w H s.heap dd (.xd fs) := I.hok dd _ e
  obtain ⟨mA, hns, hr⟩ := hx
  obtain ⟨od, ho, hl⟩ := lookIn_ns hns
  exact ⟨od, mA, ⟨ha, hz.1, by unfold PySem.W.notCls; rw [hd] <;> rfl, by rw [hz.2]; exact ho⟩, hl, hr⟩
theorem call_isX {X : Cx} {a : Addr} {oe : Obj} {cls : Value} {d : Option Addr} (hp : (a, oe) ∈ X.pn) (hz : Zc cls d oe) (hf : ∃ vs, oe.data = .fields vs) : CallR X (.builtin "isinstance") (rIsX X.K a cls d) := by
  intro pins s σ H xs us Q I r h
  obtain ⟨A, dd, fs, v, cv, b, rfl, rfl, rfl, T, e, hcv, ek, q⟩ := h
  cases r with
  | cons rx rr =>
    cases rr with
    | cons rt rr =>
      cases rr
      cases rx
      have ec := hcv _ rt
      subst ec
      obtain ⟨od, mA, J, _, _⟩ := xd_inst I hp hz hf e
      exact PySem.W.kia_one (PySem.W.kitx_excO T) I.kIn J ek (fun z => nomatch z) fun tk => ⟨.bl b, H, I.kept (t' := tk) fun _ _ z => z, rfl, q⟩
/-- error.f -/
def tXfA (K : PySem.W.Frag) (a : Addr) (cls : Value) (d : Option Addr) (f : Str) (te : TE) : TE := fun σ H Q => te σ H fun x H1 => x = .ref a ∧ ∃ (A dd : Addr) (fs : List (Str × V)) (v : V), cls = .ref A ∧ d = some dd ∧ XfC K A ∧ PySem.W.findIn K (.ref A) f = some none ∧ H1 dd = some (.xd fs) ∧ fs.lookup f = some v ∧ Q v H1
theorem pe_xfA {X : Cx} {a : Addr} {oe : Obj} {cls : Value} {d : Option Addr} {e : Expr} {te : TE} {pos : Pos} {n : Str} (hp : (a, oe) ∈ X.pn) (hz : Zc cls d oe) (hf : ∃ vs, oe.data = .fields vs) (he : PE X e te) (hb : attributeBase e n X.env (eval e X.env) = eval e X.env := by rfl) :
    PE X (.Attribute e n pos) (tXfA X.K a cls d n te) := by
  refine ⟨fun pins s σ H Q I h => ?_⟩
  refine attr_of hb (thn (he.run pins s σ H _ I h) fun u s1 hh => ?_)
  obtain ⟨x, H1, I1, rx, ex, A, dd, fs, v, ec, ed, T, hno, ea, l, q⟩ := hh
  subst ex ec ed
  obtain rfl : u = Value.ref a := rx
  obtain ⟨od, mA, J, hl, hr⟩ := xd_inst I1 hp hz hf ea
  obtain ⟨u, hu, ru⟩ := RelO.some_of (v := v) (o := mA n) (by rw [← l]; exact hr n)
  exact HandSPX.exc_get I1.kIn J T.ga T.gg T.exC (PySem.W.findObj_own T.hdC hno rfl (by rw [hl, hu])) (handed_of ru) ⟨v, H1, I1.tok _, ru, q⟩
def isxM (et : ETab) (x : Exn) (i : Nat) (ans : Str → Bool) : M D := do
  let d ← peek i
  if isx d = true ∧ (et.any fun p => p.1 == x.cls) = true then pure (.bl (ans x.cls)) else badM
theorem Held.xd {x : Exn} {a : Addr} {cls : Value} {d : Option Addr} (h : Held c x a cls d) {H : Hp} {R : List Addr} {L : List (V × D)} (g : Good c H R L) : ∃ A dd vs, cls = .ref A ∧ c.cls x.cls = some A ∧ d = some dd ∧ H dd = some (.xd (x.fs.zip vs)) ∧ vs.length = x.xs.length ∧ x.fs.length = x.xs.length ∧
    Good c H R (vs.zip x.xs ++ L) := by
  obtain ⟨A, dd, e1, e2, e3, hm⟩ := h.at'
  obtain ⟨Z, fp, ha, nd, nz, zt⟩ := g
  obtain ⟨vs, k1, k2, k3, k4⟩ := zt.kp _ hm
  exact ⟨A, dd, vs, e1, e2, e3, k1, RepL.len _ _ _ k4, k3, Z, [] ++ fp, RepA.append _ _ _ _ (RepL.all _ _ _ k4) ha, nd, nz, zt⟩
theorem et_mem {et : ETab} {nm : Str} (h : (et.any fun p => p.1 == nm) = true) : ∃ p ∈ et, p.1 = nm := by
  obtain ⟨p, hp, e⟩ := List.any_eq_true.mp h
  exact ⟨p, hp, by simpa using e⟩
theorem TOk.isX {et : ETab} {x : Exn} {a C : Addr} {cls : Value} {d : Option Addr} {i : Nat} {ans : Str → Bool} (hd : Held c x a cls d) (hT : ETxt c.K c.cls et) (hk : ∀ p ∈ et, ∀ A, c.cls p.1 = some A → PySem.W.kitOne c.K (.ref A) (.ref C) = some (ans p.1)) :
    TOk c EX (tCB (rIsX c.K a cls d) (tCons (tVar i) (tCons (tC (.ref C)) tNil))) (isxM et x i ans) := fun H σ ρ T Q f g h => by
  obtain ⟨e, e1, h1⟩ := peek_post.mp (bind_post.mp h)
  by_cases k : isx e = true ∧ (et.any fun p => p.1 == x.cls) = true
  · rw [if_pos k] at h1
    obtain ⟨a', ea', hs⟩ := f.exn i (by rw [e1, isx_eq k.1])
    rw [hd.ea] at ea'
    cases ea'
    obtain ⟨A, dd, vs, q1, q2, q3, q4, q5, q6, g2⟩ := hd.xd g
    obtain ⟨p, hp, ep⟩ := et_mem k.2
    refine ⟨_, hs, A, dd, _, .ref C, .ref C, ans x.cls, rfl, q1, q3, (hT.ok p hp A (by rw [ep]; exact q2)).1, q4, fun u hu => hu, ?_, h1 _ _ f (g.addB _)⟩
    rw [← ep]
    exact hk p hp A (by rw [ep]; exact q2)
  · rw [if_neg k] at h1
    exact h1.elim
def fldM (et : ETab) (x : Exn) (i : Nat) (f : Str) : M D := do
  let d ← peek i
  if isx d = true ∧ (et.any fun p => p.1 == x.cls && p.2.contains f) = true then optM (((x.fs.zip x.xs).lookup f).map fz) else badM
theorem lookup_zip : ∀ {fs : List Str} {vs : List V} {xs : List D} {f : Str} {d : D}, vs.length = xs.length → (fs.zip xs).lookup f = some d → ∃ (k : Nat) (v : V), vs[k]? = some v ∧ xs[k]? = some d ∧ (fs.zip vs).lookup f = some v
  | [], _, _, _, _, _, h => by simp [List.lookup] at h
  | _ :: _, [], [], _, _, _, h => by simp [List.lookup] at h
  | _ :: _, _ :: _, [], _, _, l, _ => by cases l
  | _ :: _, [], _ :: _, _, _, l, _ => by cases l
  | g :: fs, v :: vs, x :: xs, f, d, l, h => by
    rw [List.zip_cons_cons, List.lookup_cons] at h ⊢
    cases e : (f == g) with
    | true =>
      rw [e] at h
      cases h
      exact ⟨0, v, rfl, rfl, rfl⟩
    | false =>
      rw [e] at h
      obtain ⟨k, w, h1, h2, h3⟩ := lookup_zip (Nat.succ.inj l) h
      exact ⟨k + 1, w, h1, h2, h3⟩
theorem TOk.fld {et : ETab} {x : Exn} {a : Addr} {cls : Value} {d : Option Addr} {i : Nat} {n : Str} (hd : Held c x a cls d) (hT : ETxt c.K c.cls et) : TOk c EX (tXfA c.K a cls d n (tVar i)) (fldM et x i n) := fun H σ ρ T Q f g h => by
  obtain ⟨e, e1, h1⟩ := peek_post.mp (bind_post.mp h)
  by_cases k : isx e = true ∧ (et.any fun p => p.1 == x.cls && p.2.contains n) = true
  · rw [if_pos k] at h1
    obtain ⟨b, eb, h2⟩ := opt_post.mp h1
    obtain ⟨b0, eb0, rfl⟩ := Option.map_eq_some_iff.mp eb
    obtain ⟨a', ea', hs⟩ := f.exn i (by rw [e1, isx_eq k.1])
    rw [hd.ea] at ea'
    cases ea'
    obtain ⟨A, dd, vs, q1, q2, q3, q4, q5, q6, g2⟩ := hd.xd g
    obtain ⟨p, hp, ep⟩ := List.any_eq_true.mp k.2
    obtain ⟨ep1, ep2⟩ := Bool.and_eq_true_iff.mp ep
    have ep1' : p.1 = x.cls := by simpa using ep1
    have tx := hT.ok p hp A (by rw [ep1']; exact q2)
    obtain ⟨kk, v, hv1, hv2, hv3⟩ := lookup_zip q5 eb0
    have g3 := g2.at hv1 hv2
    exact ⟨_, hs, rfl, A, dd, _, v, q1, q3, tx.2.1, tx.2.2 n (by simpa using ep2), q4, hv3, h2 v _ f (g3.sub (List.Sublist.cons_cons _ (List.sublist_append_right _ _)))⟩
  · rw [if_neg k] at h1
    exact h1.elim
end
end Mir
end
section
set_option Elab.async false
set_option linter.all false
set_option maxRecDepth 100000
set_option maxHeartbeats 4000000
/-! Mir10: try .. except C as n; defs that are called within a suite. -/
namespace Mir
open PySem PySem.Spec PyProof.Rows L2
section
variable {c : Cn} {EX : XW}
def noExn (ρ : Env) : Bool := ρ.all fun o => match o with
  | some d => !isx d
  | none => true
theorem noExn_at {ρ : Env} {i : Nat} (h : noExn ρ = true) : ρ[i]? ≠ some (some .exn) := fun e => by
  have q := List.all_eq_true.mp h _ (List.mem_of_getElem? e)
  cases q
def exitM (i : Nat) : Out Flw → Out Flw
  | .ok fl ρ => if noExn (ρ.set i none) = true then .ok fl (ρ.set i none) else .bad
  | _ => .bad
def heldX (x : Exn) : Exn := ⟨x.cls, x.fs, fzL x.xs⟩
def tryM (i : Nat) (tbl : Str → Option Bool) (gb : M Flw) (gs : Exn → M Flw) : M Flw := fun ρ => match gb ρ with
  | .err x ρ1 => (match tbl x.cls with
    | some true => if i < ρ1.length then exitM i (gs (heldX x) (ρ1.set i (some .exn))) else .bad
    | some false => .err x ρ1
    | none => .bad)
  | o => o
theorem Good.unhold {a d : Addr} {x : Exn} {H : Hp} {R : List Addr} {L : List (V × D)} (g : Good (c.hold a d x) H R L) : Good c H R L := by
  obtain ⟨Z, fp, h, nd, nz, zt⟩ := g
  exact ⟨Z, fp, h, nd, nz, zt.at', fun p hp => zt.kp p (List.mem_cons_of_mem _ hp)⟩
theorem Good.hold {a d : Addr} {x : Exn} {H : Hp} {R : List Addr} {L : List (V × D)} {vs : List V} (g : Good c H R (vs.zip x.xs ++ L)) (hH : H d = some (.xd (x.fs.zip vs))) (hR : d ∉ R) (l1 : vs.length = x.xs.length) (l2 : x.fs.length = x.xs.length) :
    Good (c.hold a d (heldX x)) H R L := by
  obtain ⟨Z, fp, h, nd, nz, zt⟩ := g
  obtain ⟨f, g, h1, h2, e⟩ := RepA.split _ _ _ h
  subst e
  have h1' := RepA.toL _ _ _ l1 h1
  have nd' : (f ++ (g ++ R)).Nodup := by rw [← List.append_assoc]; exact nd
  have ap := (List.nodup_append.mp nd').2.2
  let Z' : Addr → Prop := fun b => (Z b ∨ b ∈ f) ∨ b = d
  have zz : ∀ b, Z b → Z' b := fun _ z => .inl (.inl z)
  have cm : ∀ fp, Cmp c.toCb Z H H fp := fun fp => ⟨fun _ _ _ r => r, fun _ _ _ _ e => e, fun _ _ => rfl, fun _ _ q => q⟩
  have nm : ∀ b, b ∈ f ++ g → b ≠ d := fun b hb e => by
    subst e
    rcases List.mem_append.mp hb with z | z
    · obtain ⟨o, e, m⟩ := RepL.there _ _ _ h1' b z
      rw [hH] at e; cases e; exact m
    · obtain ⟨o, e, m⟩ := RepA.there _ _ h2 b z
      rw [hH] at e; cases e; exact m
  refine ⟨Z', g, RepA.mono zz L g (cm g) h2, (List.nodup_append.mp nd').2.1, fun b hb z => ?_, ⟨fun b z => ?_, fun p hp => ?_⟩⟩
  · rcases z with (z | z) | z
    · exact nz b (by rw [List.append_assoc]; exact List.mem_append_right _ hb) z
    · exact ap b z b hb rfl
    · rcases List.mem_append.mp hb with y | y
      · exact nm b (List.mem_append_right _ y) z
      · exact hR (z ▸ y)
  · rcases z with (z | z) | z
    · exact zt.at' b z
    · obtain ⟨o, e, _⟩ := RepL.there _ _ _ h1' b z
      exact ⟨o, e⟩
    · subst z
      exact ⟨_, hH⟩
  · rcases List.mem_cons.mp hp with e | e
    · subst e
      exact ⟨vs, hH, .inr rfl, by show x.fs.length = (fzL x.xs).length; rw [fzL_len]; exact l2, RepL.freeze zz x.xs vs f (fun b hb => .inl (.inr hb)) h1'⟩
    · exact (zt.kp p e).mono zz (cm [])
theorem SOk.tryAs {tb : WX → TS} {ts : Addr → Value → Option Addr → TS} {Wb Ws : List Nat} {gb : M Flw} {gs : Exn → M Flw} {tbl : Str → Option Bool} {cE : Value} {i : Nat} (hc : c.ea = none) (hb : ∀ W : WX, SOk c (WE W) Wb (tb W) gb)
    (hs : ∀ a cls d dd x, Held (c.hold a dd x) x a cls d → SOk (c.hold a dd x) (fun _ _ _ _ => False) Ws (ts a cls d) (gs x)) (hx : ∀ nm A b, c.cls nm = some A → tbl nm = some b → PySem.W.exmOne c.K (.ref A) cE = some b) :
    SOk c EX (Wb ++ i :: Ws) (fun D σ H => tb (wAs c.K cE i ts (fun cls d σ H => EX σ cls d H) D) D σ H) (tryM i tbl gb gs) := fun H σ ρ T Dn ft gd p => by
  have l1 : ∀ j ∈ Wb, j ∈ Wb ++ i :: Ws := fun j z => List.mem_append_left _ z
  have l2 : ∀ j ∈ Ws, j ∈ Wb ++ i :: Ws := fun j z => List.mem_append_right _ (List.mem_cons_of_mem _ z)
  have l3 : ∀ j ∈ [i], j ∈ Wb ++ i :: Ws := fun j z => by
    rw [List.mem_singleton.mp z]
    exact List.mem_append_right _ List.mem_cons_self
  refine hb _ H σ ρ T Dn ft gd ?_
  unfold tryM at p
  cases e : gb ρ with
  | bad => rw [e] at p; exact p.elim
  | ok fl ρ1 =>
    rw [e] at p
    exact FPost.more p l1
  | err x ρ1 =>
    rw [e] at p
    intro σ1 a1 cls dd H1 f1 ax
    obtain ⟨A, d, fvs, rfl, hA, rfl, hH, q1, q2, g1⟩ := ax
    show ∃ b, PySem.W.exmOne c.K (.ref A) cE = some b ∧ _
    cases et : tbl x.cls with
    | none => simp only [et] at p; exact p.elim
    | some b =>
      refine ⟨b, hx _ _ _ hA et, fun hb a ha => ?_, fun hb => ?_⟩
      · subst hb
        simp only [et] at p
        by_cases hi : i < ρ1.length
        · rw [if_pos hi] at p
          have hd : Held (c.hold a d (heldX x)) (heldX x) a (.ref A) (some d) := ⟨rfl, A, d, rfl, hA, rfl, List.mem_cons_self⟩
          have hiσ : i < σ1.length := by rw [f1.len]; exact hi
          have f2 : Fit (c.hold a d (heldX x)) (σ1.set i (some (.ref a))) (ρ1.set i (some .exn)) := by
            refine ⟨by rw [List.length_set, List.length_set]; exact f1.len, fun j e h => ?_, fun j h => ?_⟩
            · by_cases q : i = j
              · subst q
                exact ⟨_, List.getElem?_set_self hiσ⟩
              · rw [List.getElem?_set_ne q] at h ⊢
                exact f1.has j e h
            · by_cases q : i = j
              · subst q
                exact ⟨a, rfl, List.getElem?_set_self hiσ⟩
              · rw [List.getElem?_set_ne q] at h
                obtain ⟨a', e', _⟩ := f1.exn j h
                rw [hc] at e'
                cases e'
          have g2 : Good (c.hold a d (heldX x)) H1 [] (T ++ sl (σ1.set i (some (.ref a))) (ρ1.set i (some .exn))) := by
            have g3 : Good (c.hold a d (heldX x)) H1 [] (T ++ sl σ1 ρ1) := Good.hold g1 hH (by simp) q1 q2
            have g4 : Good (c.hold a d (heldX x)) H1 [] ((.ref a, .exn) :: (T ++ sl σ1 (ρ1.set i none))) :=
              (g3.sub (List.Sublist.append (.refl T) sl_sub)).flat fun Z => ⟨⟨a, rfl⟩, rfl⟩
            exact (g4.perm List.perm_middle.symm).perm (List.Perm.append_left T (sl_store hi f1.len).symm)
          refine hs a (.ref A) (some d) d (heldX x) hd H1 _ _ T _ f2 g2 ?_
          cases eg : gs (heldX x) (ρ1.set i (some .exn)) with
          | bad => rw [eg] at p; exact p.elim
          | err y ρ2 => rw [eg] at p; exact p.elim
          | ok fl ρ2 =>
            rw [eg] at p
            simp only [exitM] at p
            by_cases hn : noExn (ρ2.set i none) = true
            · rw [if_pos hn] at p
              have back : ∀ {σ' : St} {H' : Hp} {L : List (V × D)}, Agr Ws (σ1.set i (some (.ref a))) σ' → Fit (c.hold a d (heldX x)) σ' ρ2 → Good (c.hold a d (heldX x)) H' [] (L ++ sl σ' ρ2) →
                  Agr (Wb ++ i :: Ws) σ (σ'.set i none) ∧ Fit c (σ'.set i none) (ρ2.set i none) ∧ Good c H' [] (L ++ sl (σ'.set i none) (ρ2.set i none)) := fun {σ' H' L} ag ff gg => by
                refine ⟨(((a1.more l1).same (Agr.set.more l3)).same (ag.more l2)).same (Agr.set.more l3), ⟨by rw [List.length_set, List.length_set]; exact ff.len, fun j e h => ?_, fun j h => absurd h (noExn_at hn)⟩, ?_⟩
                · by_cases q : i = j
                  · subst q
                    by_cases hj : i < ρ2.length
                    · rw [List.getElem?_set_self hj] at h; cases h
                    · rw [List.getElem?_eq_none (by rw [List.length_set]; omega)] at h; cases h
                  · rw [List.getElem?_set_ne q] at h ⊢
                    exact ff.has j e h
                · rw [sl_none]
                  exact (gg.sub (List.Sublist.append (.refl _) sl_sub)).unhold
              cases fl with
              | nx => exact fun σ' H' ag ff gg => by obtain ⟨x1, x2, x3⟩ := back ag ff gg; exact p _ H' x1 x2 x3
              | bk => exact fun σ' H' ag ff gg => by obtain ⟨x1, x2, x3⟩ := back ag ff gg; exact p _ H' x1 x2 x3
              | ct => exact fun σ' H' ag ff gg => by obtain ⟨x1, x2, x3⟩ := back ag ff gg; exact p _ H' x1 x2 x3
              | rt y => exact fun v σ' H' ag ff gg => by obtain ⟨x1, x2, x3⟩ := back (L := (v, y) :: T) ag ff gg; exact p v _ H' x1 x2 x3
            · rw [if_neg hn] at p
              exact p.elim
        · rw [if_neg hi] at p
          exact p.elim
      · subst hb
        simp only [et] at p
        exact p σ1 (a1.more l1) _ _ H1 f1 ⟨A, d, fvs, rfl, hA, rfl, hH, q1, q2, g1⟩
end

/-! ### defs that are called within a suite -/
structure FnS (P : Program) (w : World) (K : PySem.W.Frag) (mg : Str → Option Value) (base : Heap) (CX : CXT) (k : Nat) (f : Addr) (fd : FuncData) (ps : List Str) (sp : Sp) (p : Addr × Obj) : Prop where
  len : ∀ vs H Q E, sp vs H Q E → vs.length = ps.length
  run : ∀ (A : Around) (outer : List PySem.Env) (s : Shared) (H : Hp) (args : Args) (us : List Value) (vs : List V) (Q : VK) (E : XK), L2H.RoomH k A → L2H.PinOk outer H s p → Env0 P w K mg base A outer s H → BindsTo s fd args (ps.zip us) → Vals vs us → sp vs H Q E →
    codeAny (model P w) A (.call (.ref f) args) (CR CX outer P w H s Q E) s
theorem fn_ofS {CX : CXT} {P : Program} {w : World} {K : PySem.W.Frag} {mg : Str → Option Value} {base : Heap} {k : Nat} {f : Addr} {name qual : Str} {params : Arguments} {body : List Stmt} {scope : Scope} {dV kV doc pm cdv ct oc : Value} {an od : Option Addr}
    {osl : Array (Option Value)} {N ps : List Str} {sp : Sp} {p : Addr × Obj} (lk : K.lookup f = some ⟨oc, od, .func (PySem.W.fnOf name qual params body scope dV kV doc pm an cdv ct), osl⟩) (hcd : PySem.W.codeIn K cdv qual = true) (S : FnScope N ps scope)
    (len : ∀ vs H Q E, sp vs H Q E → vs.length = ps.length)
    (hbody : ∀ (A : Around) (outer : List PySem.Env) (s : Shared) (H : Hp) (vs : List V) (Q : VK) (E : XK), L2H.RoomH k (A.deeper (envOfC qual scope s.heap.objs.size f cdv)) → sp vs H Q E →
      ∃ t, PSs (L2H.cxH CX P w K mg base N qual scope f cdv A outer s H E p) body t ∧ t { nx := fun _ H' => Q .non H', rt := Q } (L2.start N vs) H) :
    FnS P w K mg base CX (k + 1) f (PySem.W.fnOf name qual params body scope dV kV doc pm an cdv ct) ps sp p := by
  refine ⟨len, fun A outer s H args us vs Q E hr hpin e0 hb r hsp => ?_⟩
  have hl := len _ _ _ _ hsp
  have KX : K.In s.heap := e0.mod.kin.keeps fun b o e => (e0.bs b o e).1
  have lim : s.heap.NoLimit := e0.mod.nolimit.keeps fun b o e => (e0.bs b o e).1
  have hkind : ∀ y ∈ ps.zip us, scope.names.lookup y.1 = some .local ∨ (scope.names.lookup y.1 = some .cell ∧ ((cellsFrom (s.heap.objs.size + 1) scope.names []).lookup y.1).isSome = true) := fun ⟨n, v⟩ hy => by
    rcases S.par n (List.of_mem_zip hy).1 with q | q
    · exact .inl q
    · exact .inr ⟨q, PySem.W.cellsFrom_some _ _ _ (.inl q)⟩
  refine codeAny_call_function hr.depth (KX _ _ lk) rfl S.co S.gen rfl (PySem.W.codeRec_of KX hcd) (hb _ _ _ _ ?_)
  refine wpAny_newFunctionEnv_cells S.kind hkind fun env he s1 x => ?_
  subst he
  refine ⟨lim.keeps x.toInCall.keep, codeAny_func ?_⟩
  obtain ⟨t, ht, hq⟩ := hbody A outer s H vs Q E (hr.deeper _) hsp
  have I : Inv (L2H.cxH CX P w K mg base N qual scope f cdv A outer s H E p) [] (L2.start N vs) H s1 := L2H.inv_startH S hpin e0 hl r x
  refine wpAny_mono (ht.run [] s1 (L2.start N vs) H _ I hq) (fun fl s' hs => ?_) fun e s' hs => hs
  have fin : ∀ {σ' : L2.St} {H' : Hp} {v : V} {u : Value}, Inv (L2H.cxH CX P w K mg base N qual scope f cdv A outer s H E p) [] σ' H' s' → RelV v u → Q v H' → CE outer P w H s Q u s' :=
    fun {σ' H' v u} J rv q => ⟨v, H', J.os, J.bare, J.base, J.hok, rv, q⟩
  cases fl with
  | ret u =>
    obtain ⟨v, σ', H', J, rv, q⟩ := hs
    exact fin J rv q
  | next =>
    obtain ⟨σ', H', J, q⟩ := hs
    exact fin (v := V.non) (u := Value.none) J rfl q
  | brk =>
    obtain ⟨_, _, _, q⟩ := hs
    exact False.elim q
  | cont =>
    obtain ⟨_, _, _, q⟩ := hs
    exact False.elim q
theorem run_fnS {X : Cx} {CX : CXT} {k : Nat} {f : Addr} {fd : FuncData} {ps : List Str} {sp : Sp} {p : Addr × Obj} {E : L2.St → XK} {pins : List (Addr × Obj)} {σ : L2.St} {H : Hp} {s : Shared} {Q : VK} {us : List Value} {vs : List V} (F : FnS X.prog X.w X.K X.mg X.base CX k f fd ps sp p) (hr : L2H.RoomH k X.A) (hp : p ∈ X.pn) (hb : Binds X.K fd ps []) (hx : PassesAt CX X σ (E σ))
    (I : Inv X pins σ H s) (r : Vals vs us) (h : sp vs H Q (E σ)) : wpAny (model X.prog X.w) X.A (call (.ref f) us) (EP X pins σ Q) X.xe s := by
  have hl : us.length = ps.length := by rw [← r.length]; exact F.len _ _ _ _ h
  have b := hb s us I.kIn (by rw [List.append_nil]; exact hl)
  rw [List.append_nil] at b
  have P1 := I.pin p (List.mem_append_left _ hp)
  have hpin : L2H.PinOk X.stack H s p := ⟨P1.1, P1.2.1, fun hm => (List.mem_cons.mp (I.stkSub p.1 hm)).elim P1.2.2.1 P1.2.2.2.1, P1.2.2.2.2⟩
  refine wpAny_call (codeAny_mono (F.run X.A X.stack s H ⟨us, []⟩ us vs Q (E σ) hr hpin I.env0 b r h) fun r s' hq => ?_)
  cases r with
  | error e => exact hx pins H s e s' I hq
  | ok fl =>
    cases fl with
    | ret u => exact I.after hq
    | next => exact False.elim hq
    | brk => exact False.elim hq
    | cont => exact False.elim hq
/-- what such a def keeps to -/
def spX (a : Addr) (c : Cn) (ln : List Bool) (f : List D → FRes) : Sp := fun vs H Q E => vs.head? = some (.ref a) ∧ spF c ln f vs H Q E
def spH (K : PySem.W.Frag) (cls0 : Str → Option Addr) (a : Addr) (cls : Value) (d : Option Addr) (ln : List Bool) (m : Exn → List D → FRes) : Sp := fun vs H Q E =>
  ∃ kp xn, Held ⟨⟨K, cls0⟩, kp, some a⟩ xn a cls d ∧ spX a ⟨⟨K, cls0⟩, kp, some a⟩ ln (m xn) vs H Q E
structure DefHot (P : Program) (w : World) (K : PySem.W.Frag) (mg : Str → Option Value) (base : Heap) (cls0 : Str → Option Addr) (k : Nat) (x : Str) (ps : List Str) (ln : List Bool) (m : Exn → List D → FRes) : Prop where
  ex : ∃ f fd, mg x = some (.ref f) ∧ PySem.W.keepIn K (.ref f) = true ∧ Binds K fd ps [] ∧ ∀ (a : Addr) (oe : Obj) (cls : Value) (d : Option Addr), Zc cls d oe → (∃ vs, oe.data = .fields vs) →
    FnS P w K mg base (L2N.CX P w) k f fd ps (spH K cls0 a cls d ln m) (a, oe)
theorem _root_.L2H.RoomH.units {k : Nat} {A : Around} (r : L2H.RoomH k A) : A.units + 64 < cLine := by have := r.un; omega
theorem room_suite {X : Cx} {k j : Nat} {a : Addr} {pn : List (Addr × Obj)} (hr : Room k X.A) (h : j ≤ k) : L2H.RoomH j (X.suite a pn).A := L2H.RoomH.mono (show L2H.RoomH k (X.suite a pn).A from ⟨hr.dp, hr.un⟩) h
theorem body_okX {c : Cn} {W : List Nat} {ln : List Bool} {t : TS} {g : M Flw} {N : List Str} {vs : List V} {H : Hp} {Q : VK} {E : XK} {a : Addr} (ha : c.ea = some a) (h : SOk c (fun _ => E) W t g) (hw : ∀ (i : Nat), ln[i]? = some true → i ∉ W)
    (sp : spX a c ln (defX N.length ln g) vs H Q E) : t { nx := fun _ H' => Q .non H', rt := Q } (L2.start N vs) H := by
  obtain ⟨hv, ds, T, l1, l2, gd, p⟩ := sp
  unfold defX at p
  by_cases hc : ln.length = ds.length ∧ isx (ds.headD .non) = true ∧ (ds.tail.any isx) = false
  rotate_left
  · rw [if_neg hc] at p
    exact p.elim
  rw [if_pos hc] at p
  have ft : Fit c (L2.start N vs) (envOf N.length ds) := fit_startX l1 fun i e => by
    cases i with
    | zero =>
      refine ⟨a, ha, ?_⟩
      rw [← List.head?_eq_getElem?]
      exact hv
    | succ j =>
      exfalso
      have e2 : ds.tail[j]? = some .exn := by rw [List.getElem?_tail]; exact e
      have := List.any_eq_false.mp hc.2.2 _ (List.mem_of_getElem? e2)
      exact absurd rfl this
  have es : sl (L2.start N vs) (envOf N.length ds) = vs.zip ds := sl_start l1
  have g0 : Good c H [] (T ++ sl (L2.start N vs) (envOf N.length ds)) := by
    rw [es]
    exact gd.perm List.perm_append_comm
  exact body_core h hw l1 l2 ft g0 p
theorem def_mkX {P : Program} {w : World} {K : PySem.W.Frag} {mg : Str → Option Value} {base : Heap} {cls0 : Str → Option Addr} {x : Str} {st : Stmt} {N ps : List Str} {ln : List Bool} {g : Exn → M Flw} {k : Nat} (L : Lk K mg x st ps) (S : FnScope N ps (defScope st)) (hl : ln.length = ps.length)
    (hbody : ∀ (f : Addr) (cdv : Value) (A : Around) (outer : List PySem.Env) (s : Shared) (H : Hp) (E : XK) (a : Addr) (oe : Obj) (cls : Value) (d : Option Addr) (kp : List (Addr × List Str × List D)) (xn : Exn), L2H.RoomH k (A.deeper (envOfC x (defScope st) s.heap.objs.size f cdv)) → Zc cls d oe → (∃ vs, oe.data = .fields vs) →
      Held ⟨⟨K, cls0⟩, kp, some a⟩ xn a cls d →
      ∃ t W, PSs (L2H.cxH (L2N.CX P w) P w K mg base N x (defScope st) f cdv A outer s H E (a, oe)) (defBody st) t ∧ SOk ⟨⟨K, cls0⟩, kp, some a⟩ (fun _ => E) W t (g xn) ∧ lnOk ln W = true) :
    DefHot P w K mg base cls0 (k + 1) x ps ln fun xn => defX N.length ln (g xn) := by
  obtain ⟨f, fd, F, b, m⟩ := L.ex
  obtain ⟨oc, od, kV, doc, pm, an, cdv, ct, osl, rfl, lk, hcd⟩ := F.ex
  refine ⟨f, _, m, F.kp, b, fun a oe cls d hz hf => fn_ofS lk hcd S (fun vs H Q E ⟨_, _, _, h⟩ => (spF_len h.2).trans hl) fun A outer s H vs Q E hr ⟨kp, xn, hh, sp⟩ => ?_⟩
  obtain ⟨t, W, hp, hs, hw⟩ := hbody f cdv A outer s H E a oe cls d kp xn hr hz hf hh
  exact ⟨t, hp, body_okX rfl hs (lnOk_ok hw) sp⟩
section
variable {X : Cx} {k j : Nat} {x : Str} {ps : List Str} {ln : List Bool} {m : Exn → List D → FRes} {cls0 : Str → Option Addr} {e : Expr} {t : TA} {p pos : Pos} {a : Addr} {oe : Obj} {cls : Value} {d : Option Addr}
theorem pe_callX {E : L2.St → XK} (G : DefHot X.prog X.w X.K X.mg X.base cls0 k x ps ln m) (hr : L2H.RoomH j X.A) (hp : (a, oe) ∈ X.pn) (hz : Zc cls d oe) (hf : ∃ vs, oe.data = .fields vs) (hx : ∀ σ, PassesAt (L2N.CX X.prog X.w) X σ (E σ)) (ha : PA X [e] t)
    (hk : k ≤ j := by decide) (hg : Gl X x := by rfl) (hdb : (x == ("__debug__" : Str)) = false := by decide) (he : starEach [e] X.env = (false, eval e X.env) :: starEach [] X.env := by rfl) (hpl : (backTo pos (starEach [] X.env)).any (·.1) = false := by rfl) :
    PE X (.Call (.Name x p) [e] [] pos) (tCallS (spH X.K cls0 a cls d ln m) E t) := by
  obtain ⟨f, fd, mm, kk, b, F⟩ := G.ex
  refine ⟨fun pins s σ H Q I h => ?_⟩
  refine wpAny_Call_Name_kw (ld_glob I hg mm ?_ hdb)
  refine PySem.W.callWith_K (h₀ := X.base) I.ok.mod.kin kk (thn (ha.run pos pins s σ H _ I h) fun us s1 ⟨vs, H1, I1, r, q⟩ => ⟨I1.kIn, ?_⟩) he hpl
  exact run_fnS (E := E) (F a oe cls d hz hf) (hr.mono hk) hp b (hx σ) I1 r q
end
def callX (f : List D → FRes) (i : Nat) : M D := do
  let d ← peek i
  if isx d = true then (match f [.exn] with
    | .ok r _ => pure r
    | _ => badM) else badM
theorem TOk.callX {K : PySem.W.Frag} {cls0 : Str → Option Addr} {kp : List (Addr × List Str × List D)} {EX : XW} {E : L2.St → XK} {m : Exn → List D → FRes} {x : Exn} {a : Addr} {cls : Value} {d : Option Addr} {i : Nat} (hh : Held ⟨⟨K, cls0⟩, kp, some a⟩ x a cls d) :
    TOk ⟨⟨K, cls0⟩, kp, some a⟩ EX (tCallS (spH K cls0 a cls d [false] m) E (tCons (tVar i) tNil)) (callX (m x) i) := fun H σ ρ T Q ft g h => by
  obtain ⟨e, e1, h1⟩ := peek_post.mp (bind_post.mp h)
  by_cases k : isx e = true
  · rw [if_pos k] at h1
    obtain ⟨a', ea', hs⟩ := ft.exn i (by rw [e1, isx_eq k])
    cases ea'
    refine ⟨_, hs, kp, x, hh, rfl, [.exn], T ++ sl σ ρ, rfl, rfl, g.flat fun Z => ⟨⟨a, rfl⟩, rfl⟩, ?_⟩
    cases ef : m x [.exn] with
    | ok r outs =>
      rw [ef] at h1
      intro v H' gg
      refine h1 v H' ft ?_
      cases outs <;> exact gg
    | err _ => rw [ef] at h1; exact h1.elim
    | bad => rw [ef] at h1; exact h1.elim
  · rw [if_neg k] at h1
    exact h1.elim
end Mir
end
section
set_option Elab.async false
set_option linter.all false
set_option maxRecDepth 100000
set_option maxHeartbeats 4000000
/-! Mir11: an element of a row is lent; a statement that is never reached. -/
namespace Mir
open PySem PySem.Spec PyProof.Rows L2
theorem ps_dead {X : Cx} {st : Stmt} : PS X st (fun _ _ _ => False) := ⟨fun _ _ _ _ _ _ h => h.elim⟩
section
variable {c : Cn} {EX : XW}
theorem SOk.dead : SOk c EX [] (fun _ _ _ => False) badM := fun H σ ρ T Dn f g p => p
section
variable {H : Hp} {R : List Addr} {L : List (V × D)} {v z : V} {d : D} {ds : List D} {k : Nat}
/-- an element of an own list is taken out -/
theorem Good.holeL (g : Good c H R ((v, .lst true ds) :: L)) (h : ds[k]? = some d) : ∃ p vs z, v = .ref p ∧ H p = some (.lst vs) ∧ vs.length = ds.length ∧ vs[k]? = some z ∧ Good c H R ((z, d) :: (v, .lst true (ds.set k (.val z))) :: L) := by
  obtain ⟨p, vs, e, hp, hl, g1⟩ := g.openL
  obtain ⟨z, hz⟩ := get_of_len hl h
  refine ⟨p, vs, z, e, hp, hl, hz, ?_⟩
  have hk := ltE h
  have g2 : Good c H (p :: R) ((z, .val z) :: (z, d) :: ((vs.eraseIdx k).zip (ds.eraseIdx k) ++ L)) := Good.addV (g1.perm (List.Perm.append_right L (zip_at hz h))) z
  have g3 : Good c H (p :: R) (vs.zip (ds.set k (.val z)) ++ ((z, d) :: L)) := by
    refine (g2.perm ?_)
    refine (List.Perm.trans ?_ (List.Perm.append_right ((z, d) :: L) (zip_set hz hk).symm))
    exact List.Perm.cons _ List.perm_middle.symm
  have g4 := g3.shutL (by rw [List.length_set]; exact hl) hp
  rw [e]
  exact g4.swap
theorem Good.fillL (g : Good c H R ((z, d) :: (v, .lst true ds) :: L)) (h : ds[k]? = some (.val z)) : Good c H R ((v, .lst true (ds.set k d)) :: L) := by
  obtain ⟨p, vs, e, hp, hl, g1⟩ := g.swap.openL
  obtain ⟨z', hz⟩ := get_of_len hl h
  have g2 := (g1.perm (List.Perm.append_right _ (zip_at hz h)))
  have ez : z' = z := g2.isV
  subst ez
  have g3 : Good c H (p :: R) (vs.zip (ds.set k d) ++ L) := by
    refine g2.tail.perm ?_
    refine (List.Perm.trans ?_ (List.Perm.append_right L (zip_set hz (ltE h)).symm))
    exact List.perm_middle
  have g4 := g3.shutL (by rw [List.length_set]; exact hl) hp
  rw [e]
  exact g4
/-- .. of a tuple -/
theorem Good.holeT (g : Good c H R ((v, .tup ds) :: L)) (h : ds[k]? = some d) : ∃ p vs z, v = .ref p ∧ SqT c.K H p vs ∧ vs.length = ds.length ∧ vs[k]? = some z ∧ Good c H R ((z, d) :: (v, .tup (ds.set k (.val z))) :: L) := by
  obtain ⟨p, vs, e, hp, hl, g1⟩ := g.openT
  obtain ⟨z, hz⟩ := get_of_len hl h
  refine ⟨p, vs, z, e, hp, hl, hz, ?_⟩
  have hk := ltE h
  have g2 : Good c H R ((z, .val z) :: (z, d) :: ((vs.eraseIdx k).zip (ds.eraseIdx k) ++ L)) := Good.addV (g1.perm (List.Perm.append_right L (zip_at hz h))) z
  have g3 : Good c H R (vs.zip (ds.set k (.val z)) ++ ((z, d) :: L)) := by
    refine (g2.perm ?_)
    refine (List.Perm.trans ?_ (List.Perm.append_right ((z, d) :: L) (zip_set hz hk).symm))
    exact List.Perm.cons _ List.perm_middle.symm
  have g4 := g3.closeT (by rw [List.length_set]; exact hl) hp
  rw [e]
  exact g4.swap
theorem Good.fillT (g : Good c H R ((z, d) :: (v, .tup ds) :: L)) (h : ds[k]? = some (.val z)) : Good c H R ((v, .tup (ds.set k d)) :: L) := by
  obtain ⟨p, vs, e, hp, hl, g1⟩ := g.swap.openT
  obtain ⟨z', hz⟩ := get_of_len hl h
  have g2 := (g1.perm (List.Perm.append_right _ (zip_at hz h)))
  have ez : z' = z := g2.isV
  subst ez
  have g3 : Good c H R (vs.zip (ds.set k d) ++ L) := by
    refine g2.tail.perm ?_
    refine (List.Perm.trans ?_ (List.Perm.append_right L (zip_set hz (ltE h)).symm))
    exact List.perm_middle
  have g4 := g3.closeT (by rw [List.length_set]; exact hl) hp
  rw [e]
  exact g4
/-- .. of a shared list -/
theorem Good.elemF (g : Good c H R ((v, .lst false ds) :: L)) (h : ds[k]? = some d) : ∃ p vs z, v = .ref p ∧ Rd H p (.lst vs) ∧ vs.length = ds.length ∧ vs[k]? = some z ∧ Good c H R ((z, d) :: (v, .lst false ds) :: L) := by
  obtain ⟨Z, fp, ⟨f, g', h1, h2, e⟩, nd, nz, zt⟩ := g
  have h1' := h1
  simp only [Rep, Bool.false_eq_true, if_false] at h1
  obtain ⟨a, vs, f', ev, r, q1, q2, q3, q4⟩ := h1
  subst q3 q4 e
  obtain ⟨z, hz⟩ := get_of_len (RepL.len _ _ _ r) h
  have key : ∀ {ds : List D} {vs : List V} {k : Nat}, RepL c Z H ds vs [] → ds[k]? = some d → vs[k]? = some z → Rep c Z H d z [] := by
    intro ds
    induction ds with
    | nil => intro vs k _ h; simp at h
    | cons x xs ih =>
      intro vs k r h hz
      simp only [RepL] at r
      obtain ⟨w, r', f1, f2, e, h1, h2, e2⟩ := r
      subst e
      obtain ⟨e3, e4⟩ := List.append_eq_nil_iff.mp e2.symm
      subst e3 e4
      cases k with
      | zero =>
        simp at h hz
        subst h hz
        exact h1
      | succ k => exact ih h2 (by simpa using h) (by simpa using hz)
  exact ⟨a, vs, z, ev, q1, RepL.len _ _ _ r, hz, Z, [] ++ ([] ++ fp), ⟨[], [] ++ fp, key r h hz, ⟨[], fp, h1', h2, rfl⟩, rfl⟩, nd, nz, zt⟩
end
/-! ### which element, and how it is put back -/
def eltK : D → D → Option (Nat × D)
  | .lst _ xs, .int i => (match ixN xs.length i with
    | some k => (match xs[k]? with
      | some d => some (k, d)
      | none => none)
    | none => none)
  | .tup xs, .int i => (match ixN xs.length i with
    | some k => (match xs[k]? with
      | some d => some (k, d)
      | none => none)
    | none => none)
  | _, _ => none
def putE : D → Nat → D → D
  | .lst true xs, k, d => .lst true (xs.set k d)
  | .tup xs, k, d => .tup (xs.set k d)
  | a, _, _ => a
/-- what stays of the row -/
def holeE : D → Nat → V → D
  | .lst true xs, k, z => .lst true (xs.set k (.val z))
  | .tup xs, k, z => .tup (xs.set k (.val z))
  | a, _, _ => a
theorem elt_out {H : Hp} {L : List (V × D)} {v u : V} {a n d : D} {k : Nat} (g : Good c H [] ((v, a) :: L)) (hn : ∀ i, n = .int i → u = .int i) (h : eltK a n = some (k, d)) :
    ∃ z, (∀ Q : VK, Q z H → rIx c.K v u H Q) ∧ Good c H [] ((z, d) :: (v, holeE a k z) :: L) ∧ ∀ H' d' L', Good c H' [] ((z, d') :: (v, holeE a k z) :: L') → Good c H' [] ((v, putE a k d') :: L') := by
  unfold eltK at h
  split at h
  · rename_i o xs i
    have hu := hn i rfl
    split at h
    · rename_i kk q1
      split at h
      · rename_i dd q2
        cases h
        cases o with
        | true =>
          obtain ⟨p, vs, z, ev, hp, hl, hz, g2⟩ := g.holeL q2
          refine ⟨z, fun Q q => .inl ⟨p, vs, i, z, ev, hu, .inl (.of hp), ixN_at hl q1 hz, q⟩, g2, fun H' d' L' g3 => ?_⟩
          have g4 := g3.fillL (k := k) (List.getElem?_set_self (ltE q2))
          rw [List.set_set] at g4
          exact g4
        | false =>
          obtain ⟨p, vs, z, ev, hp, hl, hz, g2⟩ := g.elemF q2
          exact ⟨z, fun Q q => .inl ⟨p, vs, i, z, ev, hu, .inl hp, ixN_at hl q1 hz, q⟩, g2, fun H' d' L' g3 => g3.tail⟩
      · cases h
    · cases h
  · rename_i xs i
    have hu := hn i rfl
    split at h
    · rename_i kk q1
      split at h
      · rename_i dd q2
        cases h
        obtain ⟨p, vs, z, ev, hp, hl, hz, g2⟩ := g.holeT q2
        refine ⟨z, fun Q q => .inr (.inl ⟨p, vs, i, z, ev, hu, hp, ixN_at hl q1 hz, q⟩), g2, fun H' d' L' g3 => ?_⟩
        have g4 := g3.fillT (k := k) (List.getElem?_set_self (ltE q2))
        rw [List.set_set] at g4
        exact g4
      · cases h
    · cases h
  · cases h
theorem isx_put {a : D} {k : Nat} {d n e : D} (h : eltK a n = some (k, e)) : some (putE a k d) ≠ some D.exn := by
  unfold eltK at h
  split at h
  · rename_i o xs i
    cases o <;> (intro z; cases z)
  · intro z; cases z
  · cases h
/-- f(xs[j], ys[j']), the elements lent -/
def callE2 (f : List D → FRes) (i j i' j' : Nat) : M D := do
  let a ← peek i
  let n ← peek j
  let b ← peek i'
  let n' ← peek j'
  if i = i' then badM else
    match eltK a n, eltK b n' with
    | some (k, d), some (k', d') => (match f [d, d'] with
      | .ok r [o, o'] => (do
        setv i (some (putE a k o))
        setv i' (some (putE b k' o'))
        pure r)
      | _ => badM)
    | _, _ => badM
theorem rd_int {H : Hp} {σ : St} {ρ : Env} {T : List (V × D)} {j : Nat} {n : D} {u : V} (g : Good c H [] (T ++ sl σ ρ)) (e : ρ[j]? = some (some n)) (k : σ[j]? = some (some u)) : ∀ i, n = .int i → u = .int i := fun i h => by
  subst h
  exact (slot_out g e k).isI
theorem TOk.callE2 {E : L2.St → XK} {f : List D → FRes} {i j i' j' : Nat} : TOk c EX (tCallS (spF c [true, true] f) E (tCons (tOp (rIx c.K) (tVar i) (tVar j)) (tCons (tOp (rIx c.K) (tVar i') (tVar j')) tNil))) (callE2 f i j i' j') := fun H σ ρ T Q ft g h => by
  obtain ⟨a, ea, h1⟩ := peek_post.mp (bind_post.mp h)
  obtain ⟨n, en, h2⟩ := peek_post.mp (bind_post.mp h1)
  obtain ⟨b, eb, h3⟩ := peek_post.mp (bind_post.mp h2)
  obtain ⟨n', en', h4⟩ := peek_post.mp (bind_post.mp h3)
  by_cases hii : i = i'
  · rw [if_pos hii] at h4; exact h4.elim
  rw [if_neg hii] at h4
  cases e1 : eltK a n with
  | none => rw [e1] at h4; exact h4.elim
  | some kd =>
    cases e2 : eltK b n' with
    | none => rw [e1, e2] at h4; exact h4.elim
    | some kd' =>
      obtain ⟨k, d⟩ := kd
      obtain ⟨k', d'⟩ := kd'
      rw [e1, e2] at h4
      cases ef : f [d, d'] with
      | bad => simp only [ef] at h4; exact h4.elim
      | err x => simp only [ef] at h4; exact h4.elim
      | ok r outs =>
        match outs, ef with
        | [], ef => simp only [ef] at h4; exact h4.elim
        | [_], ef => simp only [ef] at h4; exact h4.elim
        | _ :: _ :: _ :: _, ef => simp only [ef] at h4; exact h4.elim
        | [o, o'], ef =>
          simp only [ef] at h4
          have h5 := bind_post.mp h4
          rw [setv_post] at h5
          have h6 := bind_post.mp h5
          rw [setv_post] at h6
          obtain ⟨v, hv⟩ := ft.has i a ea
          obtain ⟨u, hu⟩ := ft.has j n en
          obtain ⟨v', hv'⟩ := ft.has i' b eb
          obtain ⟨u', hu'⟩ := ft.has j' n' en'
          have g1 := slot_out g ea hv
          obtain ⟨z, rx, g2, back⟩ := elt_out g1 (rd_int g en hu) e1
          have eb' : (ρ.set i none)[i']? = some (some b) := by rw [List.getElem?_set_ne hii]; exact eb
          have g3 : Good c H [] ((v', b) :: ((z, d) :: (v, holeE a k z) :: T ++ sl σ ((ρ.set i none).set i' none))) := slot_out (T := (z, d) :: (v, holeE a k z) :: T) g2 eb' hv'
          obtain ⟨z', rx', g4, back'⟩ := elt_out g3 (rd_int g en' hu') e2
          refine ⟨v, hv, u, hu, rx _ ⟨v', hv', u', hu', rx' _ ?_⟩⟩
          refine ⟨[d, d'], (v', holeE b k' z') :: (v, holeE a k z) :: (T ++ sl σ ((ρ.set i none).set i' none)), rfl, rfl, ?_, ?_⟩
          · refine g4.perm ?_
            show ((z', d') :: (v', holeE b k' z') :: (z, d) :: (v, holeE a k z) :: (T ++ sl σ ((ρ.set i none).set i' none))).Perm ((z, d) :: (z', d') :: (v', holeE b k' z') :: (v, holeE a k z) :: (T ++ sl σ ((ρ.set i none).set i' none)))
            exact ((List.Perm.cons _ (.swap _ _ _)).trans (.swap _ _ _)).trans (.refl _)
          · rw [ef]
            intro w H' gg
            have g5 : Good c H' [] ((w, r) :: (z, o) :: (z', o') :: (v', holeE b k' z') :: (v, holeE a k z) :: (T ++ sl σ ((ρ.set i none).set i' none))) := gg
            have g6 := back' H' o' ((w, r) :: (z, o) :: (v, holeE a k z) :: (T ++ sl σ ((ρ.set i none).set i' none))) (g5.perm (by
              refine (List.Perm.trans (List.Perm.cons _ (List.Perm.swap _ _ _)) ?_)
              refine (List.Perm.trans (.swap _ _ _) ?_)
              refine List.Perm.cons _ ?_
              refine (List.Perm.trans (List.Perm.cons _ (.swap _ _ _)) ?_)
              exact .swap _ _ _))
            have g7 := back H' o ((w, r) :: (v', putE b k' o') :: (T ++ sl σ ((ρ.set i none).set i' none))) (g6.perm (by
              refine (List.Perm.trans (.swap _ _ _) ?_)
              refine (List.Perm.trans (List.Perm.cons _ (.swap _ _ _)) ?_)
              refine (List.Perm.trans (.swap _ _ _) ?_)
              refine List.Perm.cons _ ?_
              refine (List.Perm.trans (List.Perm.cons _ (.swap _ _ _)) ?_)
              exact .swap _ _ _))
            refine h6 w H' ((ft.put hv (isx_put e1)).put hv' (isx_put e2)) ?_
            have g8 : Good c H' [] ((v', putE b k' o') :: ((v, putE a k o) :: (w, r) :: T ++ sl σ ((ρ.set i none).set i' none))) := g7.perm (by
              refine (List.Perm.trans (List.Perm.cons _ (.swap _ _ _)) ?_)
              exact .swap _ _ _)
            have g9 := slot_in g8 (by rw [List.length_set]; exact ltE eb) hv'
            have g10 : Good c H' [] ((v, putE a k o) :: ((w, r) :: T ++ sl σ ((ρ.set i' (some (putE b k' o'))).set i none))) := by
              rw [List.set_comm _ _ (Ne.symm hii)]
              exact g9
            have g11 := slot_in g10 (by rw [List.length_set]; exact ltE ea) hv
            rw [List.set_comm _ _ hii]
            exact g11
/-- xs[n].append(e), n a plain number -/
def appE (i : Nat) (n : Int) (f : M D) : M D := do
  let a ← peek i
  match eltK a (.int n) with
  | some (k, .lst true ys) => (do
    setv i none
    let d ← f
    if ys.length < sizeLine then (do
      setv i (some (putE a k (.lst true (ys ++ [d]))))
      pure .non) else badM)
  | _ => badM
theorem TOk.appE {i : Nat} {n : Int} {t : TE} {f : M D} (h : TOk c EX t f) : TOk c EX (tBM c.K "list" rAppend (tOp (rIx c.K) (tVar i) (tC (.int n))) (tCons t tNil)) (appE i n f) := fun H σ ρ T Q ft gd p => by
  obtain ⟨a, ea, p1⟩ := peek_post.mp (bind_post.mp p)
  cases e1 : eltK a (.int n) with
  | none => rw [e1] at p1; exact p1.elim
  | some kd =>
    obtain ⟨k, dd⟩ := kd
    cases dd with
    | lst o ys =>
      cases o with
      | true =>
        simp only [e1] at p1
        have p2 := bind_post.mp p1
        rw [setv_post] at p2
        obtain ⟨v, hv⟩ := ft.has i a ea
        obtain ⟨z, rx, g2, back⟩ := elt_out (slot_out gd ea hv) (fun i e => by cases e; rfl) e1
        refine ⟨v, hv, rx _ ?_⟩
        obtain ⟨Z, q0, vs0, f0, ev0, hr0, _, _⟩ := g2.lst
        refine ⟨by rw [ev0]; exact .inl ⟨rfl, vs0, .inl hr0⟩, ?_⟩
        refine h H σ (ρ.set i none) ((z, .lst true ys) :: (v, holeE a k z) :: T) _ ft.none g2 ((bind_post.mp p2).imp (fun d ρ1 q u H1 f1 g1 => ?_) fun _ _ q => q.more.more)
        by_cases hz : ys.length < sizeLine
        · rw [if_pos hz] at q
          have q2 := bind_post.mp q
          rw [setv_post] at q2
          obtain ⟨pp, vs, ev, hp, hl, g3⟩ := Good.push (L := (v, holeE a k z) :: (T ++ sl σ ρ1)) g1
          refine ⟨pp, vs, u, ev, rfl, hp, by omega, ?_⟩
          have g4 := back _ _ _ g3
          have hi : i < ρ1.length := by rw [← f1.len]; exact ltE hv
          have g5 : Good c _ [] ((v, putE a k (.lst true (ys ++ [d]))) :: (T ++ sl σ (ρ1.set i none))) := (g4.sub (List.Sublist.cons_cons _ (List.Sublist.append (.refl T) sl_sub)))
          exact q2 _ _ (f1.put hv (isx_put e1)) (slot_in g5 hi hv).addN
        · rw [if_neg hz] at q
          exact q.elim
      | false => simp only [e1] at p1; exact p1.elim
    | _ => simp only [e1] at p1; exact p1.elim
end
end Mir
namespace Mir
open PySem PySem.Spec PyProof.Rows L2
theorem def_bad {P : Program} {w : World} {K : PySem.W.Frag} {mg : Str → Option Value} {base : Heap} {x : Str} {st : Stmt} {ps : List Str} {c : Cn} {ln : List Bool} {k : Nat} (L : Lk K mg x st ps) (hl : ln.length = ps.length) : DefAt P w K mg base k x ps (spF c ln fun _ => .bad) := by
  obtain ⟨f, fd, F, b, m⟩ := L.ex
  exact ⟨f, fd, m, F.kp, b, ⟨fun vs H Q E h => (spF_len h).trans hl, fun A outer s H args us vs Q E hr e0 hb r ⟨_, _, _, _, _, z⟩ => z.elim⟩, st, F⟩
end Mir

namespace HotX
open PySem PySem.Spec PyProof.Rows
section
variable {prog : Program} {w : World} {A : Around} {E : Value → Shared → Prop} {s : Shared}
theorem next_tuple_end_hot {it t x1 : Addr} {i : Nat} {items} {Q : Option Value → Shared → Prop} (hot : HotAt A x1 s.heap) (hne : x1 ≠ it)
    (hit : IsTupIter s.heap it t i) (ht : IsTup s.heap t items) (hx : items[i]? = none)
    (hQ : ∀ h', Heap.ExtBut it s.heap h' → Q none { s with heap := h' }) : wpAny (model prog w) A (pyNext (.ref it)) Q E s := by
  obtain ⟨o, ho, hc, hd⟩ := id hit
  obtain ⟨ol, hol, _, nl, hdl⟩ := ht
  obtain ⟨hh, o1, vs1, h1, d1, c1⟩ := hot
  unfold pyNext
  refine wpAny_bind (wpAny_attempt (wpAny_callSpecial?_slot (name := Str.ofString "__next__") hit.typeIs slot_tupleiter_next
    (wpAny_call_entry slot_tupleiter_next hit.typeIs entry_tupleiter_next ?_ (args_tupleiter_next _))))
  show wpAny _ _ (field (.ref it) 0 >>= _) _ _ s
  refine wpAny_bind (wpAny_field ho hd (x := .ref t) rfl ?_)
  show wpAny _ _ (if (Value.ref t == Value.none) = true then _ else _) _ _ s
  rw [if_neg (show ¬ ((Value.ref t == Value.none) = true) from Bool.false_ne_true)]
  show wpAny _ _ (field (.ref it) 1 >>= _) _ _ s
  refine wpAny_bind (wpAny_field ho hd (x := .int i 0) rfl ?_)
  show wpAny _ _ (seqItems? (.ref t) >>= _) _ _ s
  refine wpAny_bind (wpAny_seqItems hol hdl ?_)
  simp only [Int.toNat_natCast, hx]
  refine wpAny_bind (wpAny_rule (wpAny_bind (wpAny_setField ho hd (by simp) ?_)))
  have h1' : (s.heap.update it (Obj.mapFields (·.setIfInBounds 0 Value.none))).get? x1 = some o1 := (Heap.get?_update_other _ _ (Ne.symm hne)).trans h1
  show wpAny _ _ (newExc (.type "StopIteration") [] >>= _) _ _ _
  refine wpAny_bind ?_
  simp only [newExc, newTuple]
  refine wpAny_bind (wpAny_newObj_type ?_ (by size_fits))
  refine wpAny_bind (m := firstArgMember _ _) (wpAny_of_eq (a := Value.none) (by first | rfl | (simp only [firstArgMember]; rfl)) ?_)
  refine wpAny_newObj_type ?_ (by size_fits)
  refine raiseNew_hot ⟨hh, o1, vs1, Heap.get?_push_of_some _ (Heap.get?_push_of_some _ h1'), d1, c1⟩ (Nat.ne_of_lt (Heap.lt_size (Heap.get?_push_of_some _ h1'))) (Heap.get?_push_size _ rfl) rfl (by first | (simp; done) | (simp; omega) | (simp only [Array.size_append]; simp; omega)) ?_
  refine wpAny_bind (wpAny_isInstance (T := "StopIteration") (b := true) ⟨_, Heap.get?_update_self _ (Heap.get?_push_size _ rfl) rfl, rfl⟩ isSubtype_stop ?_)
  refine wpAny_pure (hQ _ fun b o hb e => ?_)
  have e1 : (s.heap.update it (Obj.mapFields (·.setIfInBounds 0 Value.none))).get? b = some o := (Heap.get?_update_other _ _ (Ne.symm hb)).trans e
  rw [Heap.get?_update_other _ _ (Nat.ne_of_gt (Heap.lt_size (Heap.get?_push_of_some _ e1)))]
  exact Heap.get?_push_of_some _ (Heap.get?_push_of_some _ e1)
theorem unpackItems_tuple_hot {t x1 : Addr} {items : Array Value} {Q : List Value → Shared → Prop} (hot : HotAt A x1 s.heap) (ht : IsTup s.heap t items)
    (hQ : ∀ h', Heap.ExtBut s.heap.objs.size s.heap h' → Q items.toList { s with heap := h' }) : wpAny (model prog w) A (unpackItems (.ref t) items.size none) Q E s := by
  have hlt : t ≠ s.heap.objs.size := by obtain ⟨o, ho, _⟩ := ht; exact Nat.ne_of_lt (Heap.lt_size ho)
  obtain ⟨hh, o1, vs1, h1, d1, c1⟩ := hot
  have hxs : x1 ≠ s.heap.objs.size := Nat.ne_of_lt (Heap.lt_size h1)
  unfold unpackItems
  refine wpAny_bind ?_
  · unfold notIterableAtAll
    refine wpAny_bind (wpAny_specialOf ht.typeIs slot_tuple_iter.lookup ?_)
    refine wpAny_pure ?_
    simp only [Bool.false_eq_true, if_false]
    refine wpAny_bind (wpAny_holding (iter_tuple ht ?_))
    refine wpAny_bind (wpAny_holding (draw_tuple hlt items.size 0 _ _ ⟨_, Heap.get?_push_size _ rfl, rfl, rfl⟩ (ht.push _) (by omega) fun h₁ hit₁ hs₁ => ?_))
    have hall : List.take items.size (List.drop 0 items.toList) = items.toList := by
      rw [List.drop_zero]; exact List.take_of_length_le (by simp)
    rw [hall]
    rw [if_neg (by simp)]
    have ht₁ : IsTup h₁ t items := (ht.push _).extBut hs₁.extBut hlt
    refine wpAny_bind (wpAny_holding (next_tuple_end_hot ⟨hh, o1, vs1, hs₁.extBut x1 _ hxs (Heap.get?_push_of_some _ h1), d1, c1⟩ hxs hit₁ ht₁ (by simp) fun h₂ he₂ => ?_))
    simp only [Option.isSome_none, Bool.false_eq_true, if_false]
    refine wpAny_pure (hQ h₂ fun b o hb e => he₂ b o hb (hs₁.extBut b o hb (Heap.get?_push_of_some _ e)))
end
end HotX
namespace L2
open PySem PySem.Spec PyProof.Rows
theorem ps_parH {X : Cx} {i j : Nat} {x y : Str} {a b : Expr} {ta : TA} {px py pt pos : Pos} {kt k2 pt2} (hc : L2H.HotC X) (hN : X.N.Nodup) (hi : X.N[i]? = some x) (hj : X.N[j]? = some y) (hij : i ≠ j)
    (hx : X.env.scope.names.lookup x = some .local) (hy : X.env.scope.names.lookup y = some .local) (ha : PA X [a, b] ta)
    (hw : swappedStores [.Tuple [.Name x px, .Name y py] kt pt] (.Tuple [a, b] k2 pt2) X.env = pure (some [x, y]))
    (hs : swapsWithSole [.Tuple [.Name x px, .Name y py] kt pt] (.Tuple [a, b] k2 pt2) pos.line X.env = pure false := by rfl) :
    PS X (.Assign [.Tuple [.Name x px, .Name y py] kt pt] (.Tuple [a, b] k2 pt2) pos) (tPar i j ta) := by
  refine ⟨fun pins s σ H D I h => ?_⟩
  rw [exec_Assign_arm]
  refine wpAny_bind (wpAny_standAt ?_)
  rw [hs]
  refine wpAny_bind (wpAny_pure ?_)
  rw [if_neg (by decide)]
  refine wpAny_bind (Tuple_ (thn (ha.run _ pins s σ H _ I h) fun us s1 ⟨vs, H1, I1, r1, q1⟩ => ?_))
  obtain ⟨v, w, e1, q1⟩ := q1
  subst e1
  obtain ⟨u1, u2, rfl, rv, rw'⟩ : ∃ u1 u2, us = [u1, u2] ∧ RelV v u1 ∧ RelV w u2 := by
    cases r1 with
    | cons p q =>
      cases q with
      | cons p' q' =>
        cases q'
        exact ⟨_, _, rfl, p, p'⟩
  refine wpAny_newObj_type ?_ (by show 2 ≤ sizeLine; decide)
  have I2 : Inv X pins σ H1 { s1 with heap := s1.heap.push { cls := .type "tuple", data := .seq [u1, u2].toArray } } := I1.kept (t' := s1.toks) fun b o e => Heap.get?_push_of_some _ e
  rw [hw]
  refine wpAny_bind (wpAny_pure ?_)
  show wpAny (model X.prog X.w) X.A (do rule "assign.swapped-stores"; let items ← unpackItems (.ref s1.heap.objs.size) 2 none; assignInOrder [fun v => bindName X.env y v, fun v => bindName X.env x v] items.reverse; pure Flow.next) _ _ _
  obtain ⟨x1, hot⟩ := hc.at I2
  refine wpAny_bind (wpAny_rule (wpAny_bind (HotX.unpackItems_tuple_hot (items := #[u1, u2]) hot (IsTup.new s1.heap _) fun h' hx' => ?_)))
  have I3 := I2.kept (h' := h') (t' := s1.toks) fun b o e => hx' b o (Nat.ne_of_lt (Heap.lt_size e)) e
  show wpAny _ _ (assignInOrder [fun v => bindName X.env y v, fun v => bindName X.env x v] [u2, u1] >>= fun _ => pure Flow.next) _ _ _
  refine wpAny_bind (assignInOrder_cons (wpAny_bindName (store_ok I3 hN hj (.inl hy) rw' (fun s2 I4 => ?_) (.inr hy))))
  refine assignInOrder_cons (wpAny_bindName (store_ok I4 hN hi (.inl hx) rv (fun s3 I5 => assignInOrder_nil (wpAny_pure ?_)) (.inr hx)))
  rw [List.set_comm _ _ (Ne.symm hij)] at I5
  exact ⟨_, H1, I5, q1⟩
theorem hot_suite {X : Cx} {a : Addr} {oe : Obj} {cls : Value} {d : Option Addr} {pn : List (Addr × Obj)} (hz : L2N.Zn cls d oe) (hf : ∃ vs, oe.data = .fields vs) : L2H.HotC (X.suite a ((a, oe) :: pn)) := by
  obtain ⟨vs, e⟩ := hf
  exact ⟨(a, oe), ⟨rfl, vs, e, hz.2.2 vs e⟩, List.mem_cons_self⟩
end L2
namespace Mir
open PySem PySem.Spec PyProof.Rows L2
def rJoinK (K : PySem.W.Frag) : V → List V → Hp → VK → Prop := fun x xs H Q => ∃ a p, ∃ ys : List Str, x = .str a ∧ xs = [.ref p] ∧ (SqL K H p (ys.map V.str) ∨ SqT K H p (ys.map V.str)) ∧ (ys.map (·.length)).sum + ys.length * a.length ≤ 16777216 ∧ Q (.str (Txt.join a ys)) H
theorem pe_joinK {X : Cx} {o e : Expr} {to te : TE} {K : PySem.W.Frag} {apos pos : Pos} (hK : X.K = K) (ho : PE X o to) (he : PE X e te) (hs : starEach [e] X.env = [(false, eval e X.env)] := by rfl) (hbase : attributeBase o "join" X.env (eval o X.env) = eval o X.env := by rfl) (hline : (apos.endLine == pos.line) = true := by rfl) :
    PE X (.Call (.Attribute o "join" apos) [e] [] pos) (tM1 (rJoinK K) to te) := by
  subst hK
  exact pe_join ho he hs hbase hline
theorem g_joinK {c : Cn} : G2 c (fun x y H Q => rJoinK c.K x [y] H Q) oJoin := g_join
end Mir
end
section
set_option Elab.async false
set_option linter.all false
set_option maxRecDepth 100000
set_option maxHeartbeats 4000000
/-! Mir12: a loop over a list that stays whose it is. -/
namespace Mir
open PySem PySem.Spec PyProof.Rows L2
section
variable {c : Cn} {EX : XW} {H : Hp} {R : List Addr} {L : List (V × D)} {v : V} {ds : List D}
/-- an own list whose things are told apart from it -/
theorem Good.apart (g : Good c H R ((v, .lst true ds) :: L)) : ∃ p vs, v = .ref p ∧ H p = some (.lst vs) ∧ vs.length = ds.length ∧ Good c H R ((v, .lst true (vs.map .val)) :: (vs.zip ds ++ L)) := by
  obtain ⟨p, vs, e, hp, hl, g1⟩ := g.openL
  refine ⟨p, vs, e, hp, hl, ?_⟩
  have key : ∀ (ws : List V) {L' : List (V × D)}, Good c H (p :: R) L' → Good c H (p :: R) (ws.zip (ws.map D.val) ++ L') := by
    intro ws
    induction ws with
    | nil => intro L' g; exact g
    | cons w ws ih => intro L' g; exact (ih g).addV w
  have g2 := (key vs g1).shutL (by rw [List.length_map]) hp
  rw [e]
  exact g2
theorem Good.refill {vs : List V} (g : Good c H R ((v, .lst true (vs.map .val)) :: (vs.zip ds ++ L))) (hl : vs.length = ds.length) : Good c H R ((v, .lst true ds) :: L) := by
  obtain ⟨p, ws, e, hp, hl2, g1⟩ := g.openL
  have key : ∀ (us ws : List V) {L' : List (V × D)}, ws.length = us.length → Good c H (p :: R) (ws.zip (us.map D.val) ++ L') → ws = us := by
    intro us
    induction us with
    | nil => intro ws L' h _; exact List.length_eq_zero_iff.mp h
    | cons u us ih =>
      intro ws L' h g
      cases ws with
      | nil => cases h
      | cons w ws =>
        have g' : Good c H (p :: R) ((w, .val u) :: (ws.zip (us.map D.val) ++ L')) := g
        rw [ih ws (Nat.succ.inj h) g'.tail, g'.isV]
  have ew : ws = vs := key vs ws (by rw [hl2, List.length_map]) g1
  subst ew
  have g2 : Good c H (p :: R) (ws.zip ds ++ L) := g1.sub (List.sublist_append_right _ _)
  have g3 := g2.shutL hl hp
  rw [e]
  exact g3
theorem Good.freezeL : ∀ {vs : List V} {ds : List D} {L : List (V × D)}, Good c H R (vs.zip ds ++ L) → Good c H R (vs.zip (fzL ds) ++ L)
  | [], _, _, g => g
  | _ :: _, [], _, g => g
  | w :: vs, d :: ds, L, g => by
    have g1 : Good c H R ((w, d) :: (vs.zip ds ++ L)) := g
    have g2 : Good c H R ((w, fz d) :: (vs.zip ds ++ L)) := g1.freeze
    have g3 : Good c H R (vs.zip ds ++ ((w, fz d) :: L)) := g2.perm List.perm_middle.symm
    have g4 := Good.freezeL (vs := vs) (ds := ds) g3
    exact g4.perm List.perm_middle
theorem fz_of_fzL {k : Nat} {d : D} (h : (fzL ds)[k]? = some d) : fz d = d := by
  rw [fzL_map, List.getElem?_map] at h
  obtain ⟨e, _, rfl⟩ := Option.map_eq_some_iff.mp h
  exact fz_fz e
/-- for x in xs, xs a name that stays -/
def forB (i : Nat) (tg : D → M Unit) (body : M Flw) : M Flw := do
  let a ← peek i
  match a with
  | .lst o ds => (do
    setv i none
    let fl ← loopM tg body (fzL ds)
    match fl with
    | .nx => (do { setv i (some (.lst o (fzL ds))); pure .nx })
    | x => pure x)
  | _ => badM
theorem SOk.forB {W W' : List Nat} {i : Nat} {g : TG} {tb : TS} {tg : D → M Unit} {body : M Flw} (hg : GOk c W g tg) (hb : SOk c EX W' tb body) (hi : i ∉ W ++ W') : SOk c EX (W ++ W') (tFor (iList c.K (tVar i)) g tb) (forB i tg body) := fun H σ ρ T Dn ft gd p => by
  obtain ⟨a, ea, p1⟩ := peek_post.mp (bind_post.mp p)
  obtain ⟨v, k⟩ := ft.has i a ea
  refine ⟨v, k, ?_⟩
  cases a with
  | lst o ds =>
    have p2 := bind_post.mp p1
    rw [setv_post] at p2
    have p3 := bind_post.mp p2
    have g1 := slot_out gd ea k
    -- the list apart, its things shared
    obtain ⟨q, vs, U, ev, hr, hl, g2, sq, back⟩ : ∃ (q : Addr) (vs : List V) (U : List (V × D)), v = .ref q ∧ Rd H q (.lst vs) ∧ vs.length = ds.length ∧ Good c H [] (vs.zip (fzL ds) ++ (U ++ (T ++ sl σ (ρ.set i none)))) ∧
        (∀ H' L', Good c H' [] (vs.zip (fzL ds) ++ (U ++ L')) → SqL c.K H' q vs) ∧ ∀ H' L', Good c H' [] (vs.zip (fzL ds) ++ (U ++ L')) → Good c H' [] ((v, .lst o (fzL ds)) :: L') := by
      cases o with
      | true =>
        obtain ⟨q, vs, ev, hp, hl, g3⟩ := g1.apart
        have g4 : Good c H [] (vs.zip ds ++ ([(v, .lst true (vs.map .val))] ++ (T ++ sl σ (ρ.set i none)))) := g3.perm (List.perm_middle (l₁ := vs.zip ds)).symm
        refine ⟨q, vs, [(v, .lst true (vs.map .val))], ev, .of hp, hl, g4.freezeL, fun H' L' g5 => ?_, fun H' L' g5 => ?_⟩
        · have g6 : Good c H' [] ((v, .lst true (vs.map .val)) :: (vs.zip (fzL ds) ++ L')) := g5.perm (List.perm_middle (l₁ := vs.zip (fzL ds)))
          obtain ⟨q', ws, e', hp', hl', g7⟩ := g6.openL
          rw [ev] at e'
          cases e'
          have key : ∀ (us ws : List V) {L' : List (V × D)}, ws.length = us.length → Good c H' [q] (ws.zip (us.map D.val) ++ L') → ws = us := by
            intro us
            induction us with
            | nil => intro ws L' h _; exact List.length_eq_zero_iff.mp h
            | cons u us ih =>
              intro ws L' h g
              cases ws with
              | nil => cases h
              | cons w ws =>
                have g' : Good c H' [q] ((w, .val u) :: (ws.zip (us.map D.val) ++ L')) := g
                rw [ih ws (Nat.succ.inj h) g'.tail, g'.isV]
          have ew : ws = vs := key vs ws (by rw [hl', List.length_map]) g7
          subst ew
          exact .inl (.of hp')
        · have g6 : Good c H' [] ((v, .lst true (vs.map .val)) :: (vs.zip (fzL ds) ++ L')) := g5.perm (List.perm_middle (l₁ := vs.zip (fzL ds)))
          exact g6.refill (by rw [fzL_len]; exact hl)
      | false =>
        have g2 := g1.dup
        simp only [fz] at g2
        obtain ⟨q, vs, ev, hr, hl, g3⟩ := g2.readL
        rw [fzL_len] at hl
        refine ⟨q, vs, [(v, .seq vs), (v, .lst false (fzL ds))], ev, hr, hl, g3, fun H' L' g5 => ?_, fun H' L' g5 => ?_⟩
        · have g6 : Good c H' [] ((v, .seq vs) :: ((v, .lst false (fzL ds)) :: L')) := g5.sub (List.sublist_append_right _ _)
          obtain ⟨q', e', s⟩ := g6.seqAt
          rw [ev] at e'
          cases e'
          exact s
        · have g6 : Good c H' [] ((v, .seq vs) :: ((v, .lst false (fzL ds)) :: L')) := g5.sub (List.sublist_append_right _ _)
          exact g6.tail
    refine ⟨q, ev, ⟨vs, .inl hr⟩, ?_⟩
    -- what the turns must leave
    have hlf : vs.length = (fzL ds).length := by rw [fzL_len]; exact hl
    have p4 : OPost (FPost c (W ++ W') (vs.zip (fzL ds) ++ (U ++ T)) σ Dn) (XPostS c EX (W ++ W') (vs.zip (fzL ds) ++ (U ++ T)) σ) (loopM tg body (fzL ds) (ρ.set i none)) := by
      refine p3.imp (fun fl ρ1 q1 => ?_) fun x ρ1 q1 σ1 a1 => (q1 σ1 a1).sub ((List.sublist_append_right U T).trans (List.sublist_append_right _ _))
      cases fl with
      | nx =>
        have q2 := bind_post.mp q1
        rw [setv_post] at q2
        intro σ1 H1 a1 f1 gg
        have hv1 : σ1[i]? = some (some v) := (a1.at' i hi).trans k
        have hir : i < ρ1.length := by rw [← f1.len]; exact ltE hv1
        refine q2 σ1 H1 a1 (f1.put hv1 (by intro z; cases z)) ?_
        rw [List.append_assoc, List.append_assoc] at gg
        have g5 := back H1 _ gg
        exact slot_in (g5.sub (List.Sublist.cons_cons _ (List.Sublist.append (.refl T) sl_sub))) hir hv1
      | bk => exact fun σ1 H1 a1 f1 gg => q1 σ1 H1 a1 f1 (gg.sub (List.Sublist.append ((List.sublist_append_right U T).trans (List.sublist_append_right _ _)) (.refl _)))
      | ct => exact fun σ1 H1 a1 f1 gg => q1 σ1 H1 a1 f1 (gg.sub (List.Sublist.append ((List.sublist_append_right U T).trans (List.sublist_append_right _ _)) (.refl _)))
      | rt x => exact fun w σ1 H1 a1 f1 gg => q1 w σ1 H1 a1 f1 (gg.sub (List.Sublist.cons_cons _ (List.Sublist.append ((List.sublist_append_right U T).trans (List.sublist_append_right _ _)) (.refl _))))
    have g5 : Good c H [] ((vs.zip (fzL ds) ++ (U ++ T)) ++ sl σ (ρ.set i none)) := by
      rw [List.append_assoc, List.append_assoc]
      exact g2
    refine for_list (K := c.K) (a := q) (xs := vs) (fun n σ' H' => ∃ ρ', Agr (W ++ W') σ σ' ∧ Fit c σ' ρ' ∧ Good c H' [] ((vs.zip (fzL ds) ++ (U ++ T)) ++ sl σ' ρ') ∧
      OPost (FPost c (W ++ W') (vs.zip (fzL ds) ++ (U ++ T)) σ Dn) (XPostS c EX (W ++ W') (vs.zip (fzL ds) ++ (U ++ T)) σ) (loopM tg body ((fzL ds).drop n) ρ')) ⟨ρ.set i none, .refl, ft.none, g5, p4⟩ (fun n σ' H' _ h => ?_) (fun n x σ' H' hx h => ?_) (fun σ' H' h => ?_)
    · obtain ⟨ρ', _, _, gg, _⟩ := h
      rw [List.append_assoc, List.append_assoc] at gg
      exact sq H' _ gg
    · obtain ⟨ρ', ag, f', gg, p'⟩ := h
      have hk : n < (fzL ds).length := by rw [← hlf]; exact ltE hx
      have hd := List.getElem?_eq_getElem hk
      rw [drop_at hd] at p'
      have ge : Good c H' [] (vs.zip (fzL ds) ++ ((U ++ T) ++ sl σ' ρ')) := by rw [List.append_assoc] at gg; exact gg
      have g6 := ge.at hx hd
      rw [fz_of_fzL hd] at g6
      have es : (fzL ds).set n (fzL ds)[n] = fzL ds := List.set_getElem_self hk
      rw [es] at g6
      have g7 : Good c H' [] ((x, (fzL ds)[n]) :: ([] ++ ((vs.zip (fzL ds) ++ (U ++ T)) ++ sl σ' ρ'))) := by
        rw [List.nil_append, List.append_assoc]
        exact g6
      refine turn_ok hg hb (U := []) (T := vs.zip (fzL ds) ++ (U ++ T)) (σ0 := σ) (D := Dn) f' g7 ag p' fun σ2 H2 ρ2 ag2 f2 g2 p2 => ⟨ρ2, ag2, f2, g2, p2⟩
    · obtain ⟨ρ', ag, f', gg, p'⟩ := h
      rw [List.drop_eq_nil_of_le (by omega)] at p'
      exact p' σ' H' ag f' gg
  | _ => exact p1.elim
end
end Mir
end
section
set_option Elab.async false
set_option linter.all false
set_option maxRecDepth 100000
set_option maxHeartbeats 4000000
/-! Mir13: a comprehension over a list that stays whose it is. -/
namespace Mir
open PySem PySem.Spec PyProof.Rows L2
section
variable {c : Cn} {EX : XW} {H : Hp} {L : List (V × D)} {v : V} {ds : List D} {o : Bool}
/-- a list of a name, its things told apart and shared, and the way back -/
theorem Good.lay (g1 : Good c H [] ((v, .lst o ds) :: L)) : ∃ (q : Addr) (vs : List V) (U : List (V × D)), v = .ref q ∧ Rd H q (.lst vs) ∧ vs.length = ds.length ∧ Good c H [] (vs.zip (fzL ds) ++ (U ++ L)) ∧
    (∀ H' L', Good c H' [] (vs.zip (fzL ds) ++ (U ++ L')) → SqL c.K H' q vs) ∧ ∀ H' L', Good c H' [] (vs.zip (fzL ds) ++ (U ++ L')) → Good c H' [] ((v, .lst o (fzL ds)) :: L') := by
  cases o with
  | true =>
    obtain ⟨q, vs, ev, hp, hl, g3⟩ := g1.apart
    have g4 : Good c H [] (vs.zip ds ++ ([(v, .lst true (vs.map .val))] ++ (L))) := g3.perm (List.perm_middle (l₁ := vs.zip ds)).symm
    refine ⟨q, vs, [(v, .lst true (vs.map .val))], ev, .of hp, hl, g4.freezeL, fun H' L' g5 => ?_, fun H' L' g5 => ?_⟩
    · have g6 : Good c H' [] ((v, .lst true (vs.map .val)) :: (vs.zip (fzL ds) ++ L')) := g5.perm (List.perm_middle (l₁ := vs.zip (fzL ds)))
      obtain ⟨q', ws, e', hp', hl', g7⟩ := g6.openL
      rw [ev] at e'
      cases e'
      have key : ∀ (us ws : List V) {L' : List (V × D)}, ws.length = us.length → Good c H' [q] (ws.zip (us.map D.val) ++ L') → ws = us := by
        intro us
        induction us with
        | nil => intro ws L' h _; exact List.length_eq_zero_iff.mp h
        | cons u us ih =>
          intro ws L' h g
          cases ws with
          | nil => cases h
          | cons w ws =>
            have g' : Good c H' [q] ((w, .val u) :: (ws.zip (us.map D.val) ++ L')) := g
            rw [ih ws (Nat.succ.inj h) g'.tail, g'.isV]
      have ew : ws = vs := key vs ws (by rw [hl', List.length_map]) g7
      subst ew
      exact .inl (.of hp')
    · have g6 : Good c H' [] ((v, .lst true (vs.map .val)) :: (vs.zip (fzL ds) ++ L')) := g5.perm (List.perm_middle (l₁ := vs.zip (fzL ds)))
      exact g6.refill (by rw [fzL_len]; exact hl)
  | false =>
    have g2 := g1.dup
    simp only [fz] at g2
    obtain ⟨q, vs, ev, hr, hl, g3⟩ := g2.readL
    rw [fzL_len] at hl
    refine ⟨q, vs, [(v, .seq vs), (v, .lst false (fzL ds))], ev, hr, hl, g3, fun H' L' g5 => ?_, fun H' L' g5 => ?_⟩
    · have g6 : Good c H' [] ((v, .seq vs) :: ((v, .lst false (fzL ds)) :: L')) := g5.sub (List.sublist_append_right _ _)
      obtain ⟨q', e', s⟩ := g6.seqAt
      rw [ev] at e'
      cases e'
      exact s
    · have g6 : Good c H' [] ((v, .seq vs) :: ((v, .lst false (fzL ds)) :: L')) := g5.sub (List.sublist_append_right _ _)
      exact g6.tail
def lcB (vs : List Nat) (i : Nat) (tg : D → M Unit) (tst : M Bool) (elt : M D) : M D := do
  let a ← peek i
  match a with
  | .lst o ds => (do
    setv i none
    wipeM vs
    let r ← noX (compM vs tg tst elt (fzL ds) [])
    setv i (some (.lst o (fzL ds)))
    pure (.lst true r))
  | _ => badM
theorem TOk.lcB {vs : List Nat} {W : List Nat} {i : Nat} {g : TG} {tt : TT} {te : TE} {tg : D → M Unit} {tst : M Bool} {elt : M D} (hg : GOk c W g tg) (ht : TtOk c EXF tt tst) (he : TOk c EXF te elt) (hw : ∀ i ∈ W, i ∈ vs := by decide) :
    TOk c EX (tLc (iList c.K (tVar i)) g tt te vs) (lcB vs i tg tst elt) := fun H σ ρ T Q ft gd p => by
  obtain ⟨a, ea, p1⟩ := peek_post.mp (bind_post.mp p)
  obtain ⟨v, k⟩ := ft.has i a ea
  refine ⟨v, k, ?_⟩
  cases a with
  | lst o ds =>
    have p2 := bind_post.mp p1
    rw [setv_post] at p2
    have p3 := wipeM_post.mp (bind_post.mp p2)
    have g1 := slot_out gd ea k
    obtain ⟨q, ws, U, ev, hr, hl, g2, sq, back⟩ := g1.lay
    refine ⟨q, ev, ⟨ws, .inl hr⟩, fun Da hD => ?_⟩
    have hlf : ws.length = (fzL ds).length := by rw [fzL_len]; exact hl
    have q3 : OPost (fun r ρ' => ∀ H', Fit c (wipe σ vs) ρ' → Good c H' [] ((.ref Da, .lst true r) :: ((ws.zip (fzL ds) ++ (U ++ T)) ++ sl (wipe σ vs) ρ')) → Q (.ref Da) H') (fun _ _ => False) (compM vs tg tst elt (fzL ds) [] (Mir.wipeD (ρ.set i none) vs)) :=
      (compM_dead (noX_post (bind_post.mp p3))).imp (fun r ρ' ⟨dd, qq⟩ H' fx gx => by
        have q2 := bind_post.mp qq
        rw [setv_post] at q2
        rw [sl_wipe' dd] at gx
        have f1 : Fit c σ ρ' := ⟨by rw [← fx.len, wipe_length], fun i d e => by
          obtain ⟨v, k⟩ := fx.has i d e
          exact ⟨v, (wipe_some k).1⟩, fun i e => by
          obtain ⟨a, e', k⟩ := fx.exn i e
          exact ⟨a, e', (wipe_some k).1⟩⟩
        have hir : i < ρ'.length := by rw [← f1.len]; exact ltE k
        have g5 : Good c H' [] (ws.zip (fzL ds) ++ (U ++ ((.ref Da, .lst true r) :: (T ++ sl σ ρ')))) := by
          refine gx.perm ?_
          have e1 : ws.zip (fzL ds) ++ (U ++ ((V.ref Da, D.lst true r) :: (T ++ sl σ ρ'))) = (ws.zip (fzL ds) ++ U) ++ ((V.ref Da, D.lst true r) :: (T ++ sl σ ρ')) := by rw [List.append_assoc]
          have e2 : (ws.zip (fzL ds) ++ (U ++ T)) ++ sl σ ρ' = (ws.zip (fzL ds) ++ U) ++ (T ++ sl σ ρ') := by simp only [List.append_assoc]
          rw [e1, e2]
          exact List.perm_middle.symm
        have g6 := back H' _ g5
        refine q2 (.ref Da) H' (f1.put k (by intro z; cases z)) ?_
        exact slot_in (T := (.ref Da, .lst true r) :: T) (g6.sub (List.Sublist.cons_cons _ (List.Sublist.cons_cons _ (List.Sublist.append (.refl T) sl_sub)))) hir k) fun _ _ z => z
    have g5 : Good c H [] ((ws.zip (fzL ds) ++ (U ++ T)) ++ sl σ (ρ.set i none)) := by
      rw [List.append_assoc, List.append_assoc]
      exact g2
    refine lc_list (K := c.K) (a := q) (xs := ws) (fun n H' => ∃ ρ' acc, Fit c (wipe σ vs) ρ' ∧ Good c H' [] ((.ref Da, .lst true acc) :: [] ++ ((ws.zip (fzL ds) ++ (U ++ T)) ++ sl (wipe σ vs) ρ')) ∧
      OPost (fun r ρ' => ∀ H', Fit c (wipe σ vs) ρ' → Good c H' [] ((.ref Da, .lst true r) :: ((ws.zip (fzL ds) ++ (U ++ T)) ++ sl (wipe σ vs) ρ')) → Q (.ref Da) H') (fun _ _ => False) (compM vs tg tst elt ((fzL ds).drop n) acc ρ')) ⟨Mir.wipeD (ρ.set i none) vs, [], ft.none.wipe, ?_, q3⟩ (fun n H' _ h => ?_) (fun n x H' hx h => ?_) (fun H' h => ?_)
    · have g4 : Good c H [] (([] : List V).zip [] ++ ((ws.zip (fzL ds) ++ (U ++ T)) ++ sl (wipe σ vs) (Mir.wipeD (ρ.set i none) vs))) := by
        refine g5.sub ?_
        rw [sl_wipe]
        show ((ws.zip (fzL ds) ++ (U ++ T)) ++ sl σ (Mir.wipeD (ρ.set i none) vs)).Sublist _
        exact List.Sublist.append (.refl _) sl_wipe_sub
      exact g4.newL rfl hD (by simp)
    · obtain ⟨ρ', acc, _, g, _⟩ := h
      have g6 : Good c H' [] ((ws.zip (fzL ds) ++ (U ++ T)) ++ sl (wipe σ vs) ρ') := g.tail
      rw [List.append_assoc, List.append_assoc] at g6
      exact sq H' _ g6
    · obtain ⟨ρ', acc, f', g', p'⟩ := h
      have hk : n < (fzL ds).length := by rw [← hlf]; exact ltE hx
      have hd := List.getElem?_eq_getElem hk
      rw [drop_at hd] at p'
      have ge : Good c H' [] (ws.zip (fzL ds) ++ (((U ++ T) ++ sl (wipe σ vs) ρ') ++ [(.ref Da, .lst true acc)])) := by
        refine g'.perm ?_
        have e2 : ws.zip (fzL ds) ++ (((U ++ T) ++ sl (wipe σ vs) ρ') ++ [(V.ref Da, D.lst true acc)]) = ((ws.zip (fzL ds) ++ (U ++ T)) ++ sl (wipe σ vs) ρ') ++ [(V.ref Da, D.lst true acc)] := by simp only [List.append_assoc]
        rw [e2]
        exact (List.perm_append_singleton _ _).symm
      have g6 := ge.at hx hd
      rw [fz_of_fzL hd] at g6
      have es : (fzL ds).set n (fzL ds)[n] = fzL ds := List.set_getElem_self hk
      rw [es] at g6
      refine cturn (U := []) (T := ws.zip (fzL ds) ++ (U ++ T)) hg hw ht he f' ?_ p' fun H2 ρ2 acc2 f2 g2 p2 => ⟨ρ2, acc2, f2, g2, p2⟩
      refine g6.perm (List.Perm.cons _ ?_)
      have e2 : ws.zip (fzL ds) ++ (((U ++ T) ++ sl (wipe σ vs) ρ') ++ [(V.ref Da, D.lst true acc)]) = ((ws.zip (fzL ds) ++ (U ++ T)) ++ sl (wipe σ vs) ρ') ++ [(V.ref Da, D.lst true acc)] := by simp only [List.append_assoc]
      rw [e2]
      exact List.perm_append_singleton _ _
    · obtain ⟨ρ', acc, f', g', p'⟩ := h
      rw [List.drop_eq_nil_of_le (by omega)] at p'
      exact comp_out (U := []) f' g' p'
  | _ => exact p1.elim
end
end Mir
end
section
set_option Elab.async false
set_option linter.all false
set_option maxRecDepth 100000
set_option maxHeartbeats 4000000
/-! MirH: the head: what the top has written, told by one Bool and by the defs' texts. -/
namespace Mir
open PySem PySem.Spec PyProof.Rows L2
/-! ### an own error, as the text has it -/
def initSt : Stmt → Stmt
  | .ClassDef _ _ _ (f :: _) _ _ _ _ _ _ _ => f
  | s => s
structure ErrD where
  nm : Str
  fs : List Str
  st : Stmt
abbrev FnI : Type := Option (Str × Arguments × FuncBody × Scope × Addr × List Str × Addr)
def iAd (K : PySem.W.Frag) (nm : Str) : Addr := He.ma K (He.ga K nm) "__init__"
def fnI (K : PySem.W.Frag) (nm : Str) : FnI := match K.lookup (iAd K nm) with
  | some ⟨_, _, .func fd, _⟩ => some (fd.name, fd.params, fd.body, fd.scope, fd.globals, fd.closure.map (·.1), fd.builtins)
  | _ => none
def ErrD.val (e : ErrD) : FnI := some ("__init__", defArgs e.st, .stmts (defBody e.st), defScope e.st, mainGlobals, ["__class__"], builtinsNs)
def fileB (file : Str) : Option Value → Bool
  | some (.str f _) => file == f
  | _ => false
def objFile (file : Str) : Option Obj → Bool
  | some ⟨_, _, .fields vs, _⟩ => fileB file vs[2]?
  | _ => false
def cellB (C : Addr) : Option Obj → Bool
  | some ⟨_, _, .cell (some (.ref D)), _⟩ => D == C
  | _ => false
def codeB (file : Str) (K : PySem.W.Frag) (nm : Str) : Bool := match K.lookup (iAd K nm) with
  | some ⟨_, _, .func fd, _⟩ => (match fd.code, fd.closure with
    | .ref cda, [(_, cc)] => PySem.W.codeIn K (.ref cda) fd.qualname && (objFile file (K.lookup cda) && cellB (He.ga K nm) (K.lookup cc))
    | _, _ => false)
  | _ => false
def errL (K : PySem.W.Frag) (e : ErrD) : List Bool :=
  [PySem.W.excInitIn K (He.ga K e.nm) PySem.HandSPX.veTail "ValueError.__new__",
   ((PySem.W.clsIn K (He.ga K e.nm)).any fun cd => PySem.HandSPX.refsVE cd.mro && cd.hasDict),
   He.eqO (PySem.W.findIn K (.ref (He.ga K e.nm)) "__setattr__") (some (some (.builtin "object.__setattr__"))),
   He.eqO (PySem.W.findIn K (.ref (He.ga K e.nm)) "__getattribute__") (some (some (.builtin "BaseException.__getattribute__"))),
   He.eqO (PySem.W.findIn K (.ref (He.ga K e.nm)) "__getattr__") (some none),
   e.fs.all (fun f => He.eqO (PySem.W.findIn K (.ref (He.ga K e.nm)) f) (some none)),
   He.eqO (PySem.W.findIn K (.ref (He.ga K e.nm)) "__init__") (some (some (.ref (iAd K e.nm)))),
   decide (PySem.W.typeIn K (.ref (iAd K e.nm)) = some (.type "function")),
   PySem.W.keepIn K (.ref (He.ga K e.nm)),
   decide (PySem.W.subIn K (.ref (He.ga K e.nm)) (.type "BaseException") = some true),
   decide (PySem.W.subIn K (.ref (He.ga K e.nm)) (.type "ValueError") = some true),
   decide (PySem.W.typeIn K (.ref (He.ga K e.nm)) = some (.type "type")),
   PySem.W.hasDictIn K (He.ga K e.nm),
   decide (PySem.W.mroIn K (He.ga K e.nm) (.ref (He.ga K e.nm)) = some true),
   He.eqO (PySem.W.ks_superIn K (He.ga K e.nm) (He.ga K e.nm) "__init__") (some (some (.builtin MirE.veInit))),
   He.eqO (PySem.W.nsIn K cStatics "thirdparty.any") (some none),
   He.eqO (PySem.W.findIn K (.ref (He.ga K e.nm)) "__class__") (some (some (.builtin "object.__class__"))),
   He.eqO (PySem.W.specialIn K (.builtin "object.__class__") "__get__") (some (some (.builtin "getset_descriptor.__get__"))),
   decide (PySem.W.takesIn K (.builtin "object.__class__") = some true),
   decide (PySem.W.mroIn K (He.ga K e.nm) (.type "object") = some true)]
def errB (K : PySem.W.Frag) (e : ErrD) : Bool := (errL K e).all id
section
variable {P : Program} {K : PySem.W.Frag} {mg : Str → Option Value} {e : ErrD} {cat : Bool} {msg : Str}
/-- the statements of such an __init__ -/
structure IsErr (e : ErrD) (cat : Bool) (msg : Str) : Prop where
  par : ∃ ar, ((defArgs e.st).posonlyargs ++ (defArgs e.st).args).head? = some ar ∧ ar.arg = "self"
  bnd : ∀ (qual : Str) (dV kV doc pm ct : Value) (an : Option Addr) (cda cc : Addr) (s : Shared) (us : List Value), us.length = e.fs.length + 1 → dV = .none →
    BindsTo s (PySem.W.ksFn "__init__" qual (defArgs e.st) (defBody e.st) (defScope e.st) dV kV doc pm an (.ref cda) ct cc) ⟨us, []⟩ ((("self" : Str) :: e.fs).zip us)
  s1 : (defScope e.st).names.lookup ("super" : Str) = some .globalImplicit
  s2 : (defScope e.st).names.lookup ("__class__" : Str) = some .free
  s3 : ∀ y ∈ ("self" : Str) :: e.fs, (defScope e.st).names.lookup y = some .local ∧ (y == ("__debug__" : Str)) = false
  s4 : (defScope e.st).kind = .function
  s5 : ∀ y ∈ (defScope e.st).names, y.2 ≠ .cell
  s6 : (defScope e.st).isCoroutine = false
  s7 : (defScope e.st).isGenerator = false
  nd : (("self" : Str) :: e.fs).Nodup
  bod : ∃ me p1 p2 p3 p4 p5, MirE.MsgAt me msg (e.fs.headD "") cat ∧ ((p3 : Pos).endLine == (p4 : Pos).line) = true ∧
      ((∃ f1 q1 q2 q3 q4, e.fs = [f1] ∧ defBody e.st = [MirE.sup me p1 p2 p3 p4 p5, MirE.sto f1 q1 q2 q3 q4]) ∨ ∃ f1 q1 q2 q3 q4 f2 r1 r2 r3 r4, e.fs = [f1, f2] ∧ defBody e.st = [MirE.sup me p1 p2 p3 p4 p5, MirE.sto f1 q1 q2 q3 q4, MirE.sto f2 r1 r2 r3 r4])
def isNoneV : Value → Bool
  | .none => true
  | _ => false
def dflNone (K : PySem.W.Frag) (nm : Str) : Bool := match K.lookup (iAd K nm) with
  | some ⟨_, _, .func fd, _⟩ => isNoneV fd.defaults
  | _ => false
theorem excC_of (h : errB K e = true) : ExcC K (He.ga K e.nm) ∧ XfC K (He.ga K e.nm) ∧ ∀ f ∈ e.fs, PySem.W.findIn K (.ref (He.ga K e.nm)) f = some none := by
  unfold errB errL at h
  simp only [List.all_cons, List.all_nil, Bool.and_eq_true, id, and_true] at h
  obtain ⟨h0, h1, h2, h3, h4, h5, h6, h7, h8, h9, h10, h11, h12, h13, h14, h15, h16, h17, h18, h19⟩ := h
  exact ⟨⟨He.eqO_ok h3, He.eqO_ok h4, of_decide_eq_true h9, h12, He.eqO_ok h16, He.eqO_ok h17, of_decide_eq_true h18, of_decide_eq_true h19⟩,
    ⟨He.eqO_ok h3, He.eqO_ok h4, of_decide_eq_true h9, h12⟩, fun f hf => He.eqO_ok (List.all_eq_true.mp h5 f hf)⟩
theorem errTxt_of (h : errB K e = true) (hc : codeB P.main.file K e.nm = true) (hd : dflNone K e.nm = true) (hv : fnI K e.nm = e.val) (S : IsErr e cat msg) (hg : mg e.nm = some (.ref (He.ga K e.nm))) (hs : mg "super" = none) (ht : (P.main.scope.names.lookup ("super" : Str)).isSome = false) :
    MirE.ErrTxt P K mg e.nm e.fs cat msg (He.ga K e.nm) (iAd K e.nm) := by
  unfold errB errL at h
  simp only [List.all_cons, List.all_nil, Bool.and_eq_true, id, and_true] at h
  obtain ⟨h0, h1, h2, h3, h4, h5, h6, h7, h8, h9, h10, h11, h12, h13, h14, h15, h16, h17, h18, h19⟩ := h
  refine ⟨hg, hs, ht, h0, ?_, He.eqO_ok h2, He.eqO_ok h3, He.eqO_ok h4, fun f hf => He.eqO_ok (List.all_eq_true.mp h5 f hf), He.eqO_ok h6, of_decide_eq_true h7, h8, of_decide_eq_true h9, of_decide_eq_true h10, of_decide_eq_true h11, h12, of_decide_eq_true h13, He.eqO_ok h14, He.eqO_ok h15, ?_⟩
  · cases q : PySem.W.clsIn K (He.ga K e.nm) with
    | none => rw [q] at h1; cases h1
    | some cd =>
      rw [q] at h1
      obtain ⟨a, b⟩ := Bool.and_eq_true_iff.mp h1
      exact ⟨cd, rfl, a, b⟩
  · unfold fnI at hv
    unfold codeB at hc
    unfold dflNone at hd
    cases q : K.lookup (iAd K e.nm) with
    | none => rw [q] at hc; cases hc
    | some o =>
      obtain ⟨oc, od, dt, osl⟩ := o
      rw [q] at hc hv hd
      cases dt with
      | func fd =>
        obtain ⟨n1, n2, n3, n4, n5, n6, n7, n8, n9, n10, n11, n12, n13, n14, n15⟩ := fd
        have e2 : (some (n1, n3, n4, n5, n6, n7.map (·.1), n15) : FnI) = some (("__init__" : Str), defArgs e.st, FuncBody.stmts (defBody e.st), defScope e.st, mainGlobals, [("__class__" : Str)], builtinsNs) := hv
        simp only [Option.some.injEq, Prod.mk.injEq] at e2
        obtain ⟨g1, g2, g3, g4, g5, g6, g7⟩ := e2
        subst g1 g2 g3 g4 g5 g7
        have hd' : isNoneV n8 = true := hd
        have e8 : n8 = .none := by cases n8 <;> first | rfl | cases hd'
        subst e8
        cases n13 with
        | ref cda =>
          match n7, g6 with
          | [(y, cc)], g6 =>
            have ey : y = "__class__" := by simpa using g6
            subst ey
            have hc' : (PySem.W.codeIn K (.ref cda) n2 && (objFile P.main.file (K.lookup cda) && cellB (He.ga K e.nm) (K.lookup cc))) = true := hc
            obtain ⟨k1, k2⟩ := Bool.and_eq_true_iff.mp hc'
            obtain ⟨k3, k4⟩ := Bool.and_eq_true_iff.mp k2
            cases q2 : K.lookup cda with
            | none => rw [q2] at k3; cases k3
            | some o2 =>
              obtain ⟨ccl, cdd, cdt, ccs⟩ := o2
              rw [q2] at k3
              cases cdt with
              | fields vs =>
                have k3 : fileB P.main.file vs[2]? = true := k3
                cases q3 : vs[2]? with
                | none => rw [q3] at k3; cases k3
                | some f =>
                  rw [q3] at k3
                  cases f with
                  | str file tf =>
                    cases q4 : K.lookup cc with
                    | none => rw [q4] at k4; cases k4
                    | some o3 =>
                      obtain ⟨cl, cld, ct2, csl⟩ := o3
                      rw [q4] at k4
                      cases ct2 with
                      | cell v =>
                        cases v with
                        | none => cases k4
                        | some v =>
                          cases v with
                          | ref D =>
                            have eD : D = He.ga K e.nm := by simpa [cellB] using k4
                            subst eD
                            obtain ⟨ar, a1, a2⟩ := S.par
                            exact ⟨n2, _, _, _, .none, n9, n10, n11, n14, oc, ccl, cl, n12, od, cdd, cld, osl, ccs, csl, cda, cc, vs, file, tf, ar, rfl, k1, q2, q3, k3, q4, a1, a2, fun s us hl => S.bnd _ _ _ _ _ _ _ _ _ s us hl rfl, S.s1, S.s2, S.s3, S.s4, S.s5, S.s6, S.s7, S.nd, S.bod⟩
                          | _ => cases k4
                      | _ => cases k4
                  | _ => cases k3
              | _ => cases k3
          | [], g6 => simp at g6
          | _ :: _ :: _, g6 => simp at g6
        | _ => cases hc
      | _ => cases hc
end
/-! ### where errors' classes stand -/
def clsE (et : ETab) (K : PySem.W.Frag) (nm : Str) : Option Addr := if (et.any fun p => p.1 == nm) = true then some (He.ga K nm) else none
theorem clsE_eq {et : ETab} {K : PySem.W.Frag} {nm : Str} {A : Addr} (h : clsE et K nm = some A) : A = He.ga K nm ∧ (et.any fun p => p.1 == nm) = true := by
  unfold clsE at h
  by_cases q : (et.any fun p => p.1 == nm) = true
  · rw [if_pos q] at h
    exact ⟨(Option.some.inj h).symm, q⟩
  · rw [if_neg q] at h
    cases h
def kitB (et : ETab) (K : PySem.W.Frag) (C : Str) (f : Str → Bool) : Bool := et.all fun p => decide (PySem.W.kitOne K (.ref (He.ga K p.1)) (.ref (He.ga K C)) = some (f p.1))
theorem kitB_ok {et : ETab} {K : PySem.W.Frag} {C : Str} {f : Str → Bool} (h : kitB et K C f = true) : ∀ p ∈ et, ∀ A, clsE et K p.1 = some A → PySem.W.kitOne K (.ref A) (.ref (He.ga K C)) = some (f p.1) := fun p hp A e => by
  rw [(clsE_eq e).1]
  exact of_decide_eq_true (List.all_eq_true.mp h p hp)
def exmB (et : ETab) (K : PySem.W.Frag) (C : Str) (f : Str → Bool) : Bool := et.all fun p => decide (PySem.W.exmOne K (.ref (He.ga K p.1)) (.ref (He.ga K C)) = some (f p.1))
theorem exmB_ok {et : ETab} {K : PySem.W.Frag} {C : Str} {f : Str → Bool} (h : exmB et K C f = true) : ∀ nm A b, clsE et K nm = some A → (if (et.any fun p => p.1 == nm) = true then some (f nm) else none) = some b → PySem.W.exmOne K (.ref A) (.ref (He.ga K C)) = some b := fun nm A b e q => by
  obtain ⟨e1, e2⟩ := clsE_eq e
  rw [if_pos e2] at q
  cases q
  obtain ⟨p, hp, ep⟩ := List.any_eq_true.mp e2
  have ep' : p.1 = nm := by simpa using ep
  rw [e1, ← ep']
  exact of_decide_eq_true (List.all_eq_true.mp h p hp)
theorem etxt_of {et : ETab} {K : PySem.W.Frag} {es : List ErrD} (he : et = es.map fun e => (e.nm, e.fs)) (h : ∀ e ∈ es, errB K e = true) : ETxt K (clsE et K) et := ⟨fun p hp A e => by
  subst he
  rw [(clsE_eq e).1]
  obtain ⟨d, hd, ed⟩ := List.mem_map.mp hp
  subst ed
  exact excC_of (h d hd)⟩
/-! ### the Hook -/
def asM (g : Addr → Option Obj) : Nat → List Addr
  | 0 => [mainGlobals, cStatics]
  | n + 1 => He.growD g (asM g n)
abbrev AlM : Type := He.AlD × Bool × List FnI
def obsM (fa : List He.Fa) (fn : List He.DefD) (ex : PySem.W.Frag → Bool) (es : List ErrD) (K : PySem.W.Frag) : AlM := (He.obsD fa fn K, (ex K && es.all fun e => errB K e), es.map fun e => fnI K e.nm)
def valM (fn : List He.DefD) (es : List ErrD) : AlM := (He.valD fn, true, es.map ErrD.val)
def SaysM (fa : List He.Fa) (fn : List He.DefD) (ex : PySem.W.Frag → Bool) (es : List ErrD) (K : PySem.W.Frag) : Prop := obsM fa fn ex es K = valM fn es
def obsMG (n : Nat) (fa : List He.Fa) (fn : List He.DefD) (ex : PySem.W.Frag → Bool) (es : List ErrD) (g : Addr → Option Obj) : AlM := obsM fa fn ex es (He.frG g (asM g n))
def hookM (n : Nat) (fa : List He.Fa) (fn : List He.DefD) (ex : PySem.W.Frag → Bool) (es : List ErrD) : PySem.W.Hook where
  α := AlM
  obs := fun s => obsMG n fa fn ex es s.heap.get?
  val := fun _ => valM fn es
  says := fun _ h => ∃ K : PySem.W.Frag, K.In h ∧ SaysM fa fn ex es K
  of := fun _ _ e => ⟨_, He.frG_in, e⟩
  keeps := fun _ _ _ ⟨K, hK, c⟩ k => ⟨K, PySem.W.Frag.In.keeps hK k, c⟩
theorem obsMG_eq {n : Nat} {fa : List He.Fa} {fn : List He.DefD} {ex : PySem.W.Frag → Bool} {es : List ErrD} {g : Addr → Option Obj} {s : Shared} (h : ∀ a, g a = s.heap.get? a) : obsMG n fa fn ex es g = (hookM n fa fn ex es).obs s := by
  have e : g = s.heap.get? := funext h
  rw [e] <;> rfl
section
variable {fa : List He.Fa} {fn : List He.DefD} {ex : PySem.W.Frag → Bool} {es : List ErrD} {K : PySem.W.Frag}
theorem SaysM.d (c : SaysM fa fn ex es K) : He.SaysD fa fn K := congrArg (fun z : AlM => z.1) c
theorem SaysM.b (c : SaysM fa fn ex es K) : ex K = true ∧ ∀ e ∈ es, errB K e = true := by
  have q : (ex K && es.all fun e => errB K e) = true := congrArg (fun z : AlM => z.2.1) c
  obtain ⟨a, b⟩ := Bool.and_eq_true_iff.mp q
  exact ⟨a, fun e he => List.all_eq_true.mp b e he⟩
theorem SaysM.i (c : SaysM fa fn ex es K) : ∀ e ∈ es, fnI K e.nm = e.val := fun e he => by
  have q : (es.map fun e => fnI K e.nm) = es.map ErrD.val := congrArg (fun z : AlM => z.2.2) c
  obtain ⟨i, hi, rfl⟩ := List.mem_iff_getElem.mp he
  have q2 : (es.map fun e => fnI K e.nm)[i]? = (es.map ErrD.val)[i]? := by rw [q]
  rw [List.getElem?_map, List.getElem?_map, List.getElem?_eq_getElem hi] at q2
  exact Option.some.inj q2
end
/-! ### a def of the text -/
def defD (x : Str) (st : Stmt) : He.DefD := ⟨(x, none), x, x, defArgs st, defBody st, defScope st, [], []⟩
theorem lk_of {K : PySem.W.Frag} {mg : Str → Option Value} {x : Str} {st : Stmt} {ps : List Str} (F : ∃ fd, FunD K x x (defArgs st) (defBody st) (defScope st) [] [] (He.ga K x) fd) (hg : mg x = some (.ref (He.ga K x)))
    (h : ∀ (kV doc pm : Value) (an : Option Addr) (cdv ct : Value) (us : List Value), us.length = ps.length → bindArgs (PySem.W.fnOf x x (defArgs st) (defBody st) (defScope st) .none kV doc pm an cdv ct) ⟨us, []⟩ = pure (ps.zip us)) : Lk K mg x st ps := by
  obtain ⟨fd, F⟩ := F
  obtain ⟨oc, od, dV, kV, doc, pm, an, cdv, ct, osl, rfl, lk, hcd, hD, hK⟩ := F.ex
  have e : dV = .none := by
    rcases hD with ⟨_, e⟩ | ⟨e, _⟩
    · exact e
    · exact absurd rfl e
  subst e
  exact ⟨He.ga K x, _, ⟨⟨oc, od, kV, doc, pm, an, cdv, ct, osl, rfl, lk, hcd⟩, F.kp⟩, .all (h kV doc pm an cdv ct), hg⟩
/-! ### the end -/
/-- what lets nothing out but what E takes, whatever the world -/
def CXW (P : Program) : CXT := fun outer H s E e s' => ∃ w, L2N.CX P w outer H s E e s'
theorem fn_cx {P : Program} {w : World} {K : PySem.W.Frag} {mg : Str → Option Value} {base : Heap} {k : Nat} {f : Addr} {fd : FuncData} {ps : List Str} {sp : Sp} (F : FnOk P w K mg base (L2N.CX P w) k f fd ps sp) : FnOk P w K mg base (CXW P) k f fd ps sp :=
  ⟨F.len, fun A outer s H args us vs Q E hr e0 hb r h => codeAny_mono (F.run A outer s H args us vs Q E hr e0 hb r h) fun rr s' z => by
    cases rr with
    | error e => exact ⟨w, z⟩
    | ok fl => cases fl <;> exact z⟩
theorem fun_eq {K : PySem.W.Frag} {x : Str} {st st' : Stmt} {f : Addr} {fd fd' : FuncData} (F : Fun K x x st f fd) (F' : Fun K x x st' f fd') : fd = fd' := by
  obtain ⟨oc, od, kV, doc, pm, an, cdv, ct, osl, e1, lk, _⟩ := F.ex
  obtain ⟨oc', od', kV', doc', pm', an', cdv', ct', osl', e2, lk', _⟩ := F'.ex
  rw [lk] at lk'
  injection lk' with h
  injection h with h1 h2 h3 h4
  injection h3
/-- what walk_ofE asks, from a law's def -/
theorem law_end {P : Program} {K : PySem.W.Frag} {mg : Str → Option Value} {fa : Addr} {x : Str} {k : Nat} {c : Cn} {m : List D → FRes} {h : Heap} (KX : K.In h) (hfa : mg x = some (.ref fa)) (hc : c.K = K) (hkp : c.kp = []) {st : Stmt} (L : Lk K mg x st ["script"])
    (hbind : ∀ (kV doc pm : Value) (an : Option Addr) (cdv ct : Value) (us : List Value), us.length = 1 → bindArgs (PySem.W.fnOf x x (defArgs st) (defBody st) (defScope st) .none kV doc pm an cdv ct) ⟨us, []⟩ = pure (((["script"] : List Str)).zip us))
    {w : World} (ok : ∀ base : Heap, DefAt P w K mg base k x ["script"] (spF c [false] m)) {n : Nat} (hm : ∀ ns : List Int, ns.length ≤ n → ∃ outs, m [.seq (ns.map V.int)] = .ok (.bl true) outs) :
    ∃ (K : PySem.W.Frag) (fd : FuncData) (sp : Sp), K.In h ∧ (∀ (s : Shared) (u : Value), BindsTo s fd ⟨[u], []⟩ [("script", u)]) ∧
        (∀ (H : Hp) (a : Addr) (ns : List Int), ns.length ≤ n → Only H → SqL K H a (ns.map V.int) → sp [.ref a] H (fun v _ => v = .bl true) fun _ _ _ => False) ∧
        ∀ base : Heap, K.In base → base.Ns mainGlobals mg → FnOk P w K mg base (CXW P) k fa fd ["script"] sp := by
  obtain ⟨f, fd, F, b, hg⟩ := L.ex
  rw [hfa] at hg
  cases hg
  refine ⟨K, fd, spF c [false] m, KX, fun s u => ?_, fun H a ns hl hO hS => ?_, fun base _ _ => ?_⟩
  · obtain ⟨oc, od, kV, doc, pm, an, cdv, ct, osl, rfl, lk, hcd⟩ := F.ex
    exact BindsTo.of_eq (hbind kV doc pm an cdv ct [u] rfl)
  · obtain ⟨outs, e⟩ := hm ns hl
    refine ⟨[.seq (ns.map V.int)], [], rfl, rfl, ?_, ?_⟩
    · have key : ∃ Z : Addr → Prop, (Z a ∨ ∀ H', SqL K H' a (ns.map V.int)) ∧ ∀ b, Z b → ∃ o, H b = some o := by
        rcases hS with hS | hS
        · refine ⟨fun b => b = a, .inl rfl, fun b e => ?_⟩
          subst e
          rcases hS with hS | ⟨o, hS⟩
          · exact ⟨_, hS⟩
          · exact ⟨_, hS⟩
        · exact ⟨fun _ => False, .inr fun H' => .inr hS, fun _ z => z.elim⟩
      obtain ⟨Z, z1, z2⟩ := key
      refine ⟨Z, [], ⟨[], [], ?_, rfl, rfl⟩, by simp, fun b hb => by simp at hb, ⟨z2, fun p hp => by rw [hkp] at hp; cases hp⟩⟩
      show Rep c.toCb Z H (.seq (ns.map V.int)) (.ref a) []
      simp only [Rep]
      exact ⟨a, rfl, by rw [hc]; exact hS, by rw [hc]; exact z1, trivial⟩
    · rw [e]
      exact fun v H' g => g.isB
  · obtain ⟨f', fd', m', _, _, F', st', Fu⟩ := (ok base).ex
    rw [hfa] at m'
    cases m'
    have e := fun_eq F Fu
    subst e
    exact fn_cx F'
theorem cxw_no {P : Program} (H : Hp) (s : Shared) (e : Value) (s' : Shared) : CXW P [] H s (fun _ _ _ => False) e s' → False := fun h => by
  obtain ⟨w, _, _, _, _, _, _, _, _, _, _, _, _, z⟩ := h
  exact z
end Mir
end
section
set_option Elab.async false
set_option linter.all false
set_option maxRecDepth 100000
set_option maxHeartbeats 4000000
/-! MirM: mirrors reckoned. -/
namespace Mir
open PySem PySem.Spec PyProof.Rows L2
def Out.bnd {α β : Type} (o : Out α) (k : α → Env → Out β) : Out β := match o with
  | .ok a ρ => k a ρ
  | .err x ρ => .err x ρ
  | .bad => .bad
section
variable {α β : Type} {a : α} {ρ : Env} {x : Exn} {k : α → Env → Out β}
@[simp] theorem bnd_ok : (Out.ok a ρ).bnd k = k a ρ := rfl
@[simp] theorem bnd_err : (Out.err x ρ : Out α).bnd k = .err x ρ := rfl
@[simp] theorem bnd_bad : (Out.bad : Out α).bnd k = .bad := rfl
theorem bnd_congr {o : Out α} {k k' : α → Env → Out β} (h : ∀ a ρ, k a ρ = k' a ρ) : o.bnd k = o.bnd k' := by
  have e : k = k' := funext fun a => funext fun ρ => h a ρ
  rw [e]
@[simp] theorem bind_app {f : M α} {g : α → M β} : (f >>= g) ρ = (f ρ).bnd fun a ρ' => g a ρ' := by
  show M.bind f g ρ = _
  unfold M.bind
  cases f ρ <;> rfl
@[simp] theorem pure_app : (pure a : M α) ρ = .ok a ρ := rfl
@[simp] theorem badM_app : (badM : M α) ρ = .bad := rfl
@[simp] theorem optM_some : optM (some a) ρ = .ok a ρ := rfl
@[simp] theorem optM_none : optM (none : Option α) ρ = .bad := rfl
@[simp] theorem setv_app {i : Nat} {d : Option D} : setv i d ρ = .ok () (ρ.set i d) := rfl
theorem peek_app {i : Nat} {d : D} (h : ρ[i]? = some (some d)) : peek i ρ = .ok d ρ := by unfold peek; rw [h]
theorem setq_app {i : Nat} {d : D} (h : isx d = false) : setq i d ρ = .ok () (ρ.set i (some d)) := by unfold setq; rw [if_neg (by rw [h]; decide)]
theorem stv_app {i : Nat} {d : D} (hi : i < ρ.length) (h : isx d = false) : stv i d ρ = .ok () (ρ.set i (some d)) := by unfold stv; rw [if_pos hi, if_neg (by rw [h]; decide)]
theorem rdv_app {i : Nat} {d : D} (h : ρ[i]? = some (some d)) : rdv i ρ = .ok (fz d) (ρ.set i (some (fz d))) := by
  unfold rdv
  rw [bind_app, peek_app h]
  rfl
theorem mvv_app {i : Nat} {d : D} (h : ρ[i]? = some (some d)) : mvv i ρ = .ok d (ρ.set i none) := by
  unfold mvv
  rw [bind_app, peek_app h]
  rfl
theorem noX_ok {f : M α} {ρ' : Env} (h : f ρ = .ok a ρ') : noX f ρ = .ok a ρ' := by unfold noX; rw [h]
theorem noX_app {f : M α} : noX f ρ = (match f ρ with | .err _ _ => .bad | o => o) := rfl
@[simp] theorem seqM_app {f g : M Flw} : seqM f g ρ = (f ρ).bnd fun fl ρ1 => match fl with | .nx => g ρ1 | x => .ok x ρ1 := by
  unfold seqM
  rw [bind_app]
  refine bnd_congr fun fl ρ1 => ?_
  cases fl <;> rfl
@[simp] theorem ifM_app {t : M Bool} {f g : M Flw} : ifM t f g ρ = (t ρ).bnd fun b ρ1 => if b = true then f ρ1 else g ρ1 := by
  unfold ifM
  rw [bind_app]
  refine bnd_congr fun b ρ1 => ?_
  cases b <;> rfl
@[simp] theorem ifV_app {t : M Bool} {f g : M D} : ifV t f g ρ = (t ρ).bnd fun b ρ1 => if b = true then f ρ1 else g ρ1 := by
  unfold ifV
  rw [bind_app]
  refine bnd_congr fun b ρ1 => ?_
  cases b <;> rfl
@[simp] theorem andT_app {f g : M Bool} : andT f g ρ = (f ρ).bnd fun b ρ1 => if b = true then g ρ1 else .ok false ρ1 := by
  unfold andT
  rw [bind_app]
  refine bnd_congr fun b ρ1 => ?_
  cases b <;> rfl
@[simp] theorem orT_app {f g : M Bool} : orT f g ρ = (f ρ).bnd fun b ρ1 => if b = true then .ok true ρ1 else g ρ1 := by
  unfold orT
  rw [bind_app]
  refine bnd_congr fun b ρ1 => ?_
  cases b <;> rfl
@[simp] theorem notT_app {f : M Bool} : notT f ρ = (f ρ).bnd fun b ρ1 => .ok (!b) ρ1 := by unfold notT; rw [bind_app]; rfl
@[simp] theorem asB_app {f : M D} : asB f ρ = (f ρ).bnd fun d ρ1 => match d with | .bl b => .ok b ρ1 | _ => .bad := by
  unfold asB
  rw [bind_app]
  refine bnd_congr fun d ρ1 => ?_
  cases d <;> rfl
@[simp] theorem andV_app {f g : M D} : andV f g ρ = (asB f ρ).bnd fun b ρ1 => if b = true then g ρ1 else .ok (.bl false) ρ1 := by
  unfold andV
  rw [bind_app]
  refine bnd_congr fun b ρ1 => ?_
  cases b <;> rfl
@[simp] theorem retM_app {f : M D} : retM f ρ = (f ρ).bnd fun d ρ1 => .ok (.rt d) ρ1 := by unfold retM; rw [bind_app]; rfl
@[simp] theorem dropM_app {f : M D} : dropM f ρ = (f ρ).bnd fun _ ρ1 => .ok .nx ρ1 := by unfold dropM; rw [bind_app]; rfl
@[simp] theorem asgM_app {f : M D} {h : D → M Unit} : asgM f h ρ = (f ρ).bnd fun d ρ1 => (noX (h d) ρ1).bnd fun _ ρ2 => .ok .nx ρ2 := by
  unfold asgM
  rw [bind_app]
  refine bnd_congr fun d ρ1 => ?_
  rw [bind_app]
  rfl
@[simp] theorem ev1_tmp {f : M D} {g : D → Option (D × D)} : ev1 (.tmp f) g ρ = (f ρ).bnd fun a ρ1 => match g a with | some p => .ok p.1 ρ1 | none => .bad := by
  show (f >>= _) ρ = _
  rw [bind_app]
  refine bnd_congr fun a ρ1 => ?_
  rw [bind_app]
  cases g a <;> rfl
theorem ev1_slot {i : Nat} {a d a' : D} {g : D → Option (D × D)} (h : ρ[i]? = some (some a)) (e : g a = some (d, a')) (hx : isx a' = false) : ev1 (.slot i) g ρ = .ok d (ρ.set i (some a')) := by
  show (peek i >>= _) ρ = _
  rw [bind_app, peek_app h, bnd_ok, bind_app, e, optM_some, bnd_ok, bind_app, setq_app hx]
  rfl
@[simp] theorem ev2_tt {f h : M D} {g : D → D → Option (D × D × D)} : ev2 (.tmp f) (.tmp h) g ρ = (f ρ).bnd fun a ρ1 => (h ρ1).bnd fun b ρ2 => match g a b with | some p => .ok p.1 ρ2 | none => .bad := by
  show (f >>= _) ρ = _
  rw [bind_app]
  refine bnd_congr fun a ρ1 => ?_
  rw [bind_app]
  refine bnd_congr fun b ρ2 => ?_
  rw [bind_app]
  cases g a b <;> rfl
theorem ev2_st {i : Nat} {a0 : D} {h : M D} {g : D → D → Option (D × D × D)} (h0 : ρ[i]? = some (some a0)) : ev2 (.slot i) (.tmp h) g ρ = (h ρ).bnd fun b ρ1 => (peek i ρ1).bnd fun a ρ2 => match g a b with | some p => (setq i p.2.1 ρ2).bnd fun _ ρ3 => .ok p.1 ρ3 | none => .bad := by
  show (peek i >>= _) ρ = _
  rw [bind_app, peek_app h0, bnd_ok, bind_app]
  refine bnd_congr fun b ρ1 => ?_
  rw [bind_app]
  refine bnd_congr fun a ρ2 => ?_
  rw [bind_app]
  cases g a b with
  | none => rfl
  | some p => rw [optM_some, bnd_ok, bind_app]; rfl
@[simp] theorem ev2_ts {j : Nat} {f : M D} {g : D → D → Option (D × D × D)} : ev2 (.tmp f) (.slot j) g ρ = (f ρ).bnd fun a ρ1 => (peek j ρ1).bnd fun b ρ2 => match g a b with | some p => (setq j p.2.2 ρ2).bnd fun _ ρ3 => .ok p.1 ρ3 | none => .bad := by
  show (f >>= _) ρ = _
  rw [bind_app]
  refine bnd_congr fun a ρ1 => ?_
  rw [bind_app]
  refine bnd_congr fun b ρ2 => ?_
  rw [bind_app]
  cases g a b with
  | none => rfl
  | some p => rw [optM_some, bnd_ok, bind_app]; rfl
theorem ev2_ss {i j : Nat} {a b : D} {g : D → D → Option (D × D × D)} {p : D × D × D} (hij : i ≠ j) (ha : ρ[i]? = some (some a)) (hb : ρ[j]? = some (some b)) (e : g a b = some p) (h1 : isx p.2.1 = false) (h2 : isx p.2.2 = false) : ev2 (.slot i) (.slot j) g ρ = .ok p.1 ((ρ.set i (some p.2.1)).set j (some p.2.2)) := by
  show (peek i >>= _) ρ = _
  rw [bind_app, peek_app ha, bnd_ok, bind_app, peek_app hb, bnd_ok, if_neg hij, bind_app, e, optM_some, bnd_ok, bind_app, setq_app h1, bnd_ok, bind_app, setq_app h2]
  rfl
@[simp] theorem evT_tmp {f : M D} : evT (.tmp f) ρ = (f ρ).bnd fun a ρ1 => match tru a with | some b => .ok b ρ1 | none => .bad := by
  show (f >>= _) ρ = _
  rw [bind_app]
  refine bnd_congr fun a ρ1 => ?_
  cases tru a <;> rfl
theorem evT_slot {i : Nat} {a : D} {b : Bool} (h : ρ[i]? = some (some a)) (e : tru a = some b) : evT (.slot i) ρ = .ok b ρ := by
  show (peek i >>= _) ρ = _
  rw [bind_app, peek_app h, bnd_ok, e]
  rfl
@[simp] theorem consM_app {f : M D} {g : M (List D)} : consM f g ρ = (f ρ).bnd fun d ρ1 => (g ρ1).bnd fun ds ρ2 => .ok (d :: ds) ρ2 := by
  unfold consM
  rw [bind_app]
  refine bnd_congr fun d ρ1 => ?_
  rw [bind_app]
  rfl
@[simp] theorem lstM_app {f : M (List D)} : lstM f ρ = (f ρ).bnd fun ds ρ1 => if ds.length ≤ sizeLine then .ok (.lst true ds) ρ1 else .bad := by
  unfold lstM
  rw [bind_app]
  refine bnd_congr fun ds ρ1 => ?_
  split <;> rfl
@[simp] theorem tupM_app {f : M (List D)} : tupM f ρ = (f ρ).bnd fun ds ρ1 => if ds.length ≤ sizeLine then .ok (.tup ds) ρ1 else .bad := by
  unfold tupM
  rw [bind_app]
  refine bnd_congr fun ds ρ1 => ?_
  split <;> rfl
@[simp] theorem setIx_app {i : Nat} {f h : M D} : setIx i f h ρ = (f ρ).bnd fun d ρ1 => (peek i ρ1).bnd fun _ ρ2 => (h ρ2).bnd fun b ρ3 => (peek i ρ3).bnd fun a ρ4 => match a, b with
    | .lst true xs, .int n => (match ixN xs.length n with
      | some k => .ok .nx (ρ4.set i (some (.lst true (xs.set k d))))
      | none => .bad)
    | _, _ => .bad := by
  unfold setIx
  rw [bind_app]
  refine bnd_congr fun d ρ1 => ?_
  rw [bind_app]
  refine bnd_congr fun _ ρ2 => ?_
  rw [bind_app]
  refine bnd_congr fun b ρ3 => ?_
  rw [bind_app]
  refine bnd_congr fun a ρ4 => ?_
  cases a with
  | lst o xs =>
    cases o with
    | true =>
      cases b with
      | int n =>
        cases q : ixN xs.length n <;> simp only [q] <;> rfl
      | _ => rfl
    | false => cases b <;> rfl
  | _ => cases b <;> rfl
@[simp] theorem parM_app {i j : Nat} {f : M (List D)} : parM i j f ρ = (f ρ).bnd fun ds ρ1 => match ds with
    | [a, b] => (noX (stv i a) ρ1).bnd fun _ ρ2 => (noX (stv j b) ρ2).bnd fun _ ρ3 => .ok .nx ρ3
    | _ => .bad := by
  unfold parM
  rw [bind_app]
  refine bnd_congr fun ds ρ1 => ?_
  match ds with
  | [a, b] =>
    show (noX (stv i a) >>= fun _ => (noX (stv j b) >>= fun _ => (pure Flw.nx : M Flw))) ρ1 = _
    rw [bind_app]
    refine bnd_congr fun _ ρ2 => ?_
    rw [bind_app]
    rfl
  | [] => rfl
  | [_] => rfl
  | _ :: _ :: _ :: _ => rfl
@[simp] theorem loopM_nil {tg : D → M Unit} {body : M Flw} : loopM tg body [] ρ = .ok .nx ρ := rfl
@[simp] theorem loopM_cons {tg : D → M Unit} {body : M Flw} {d : D} {ds : List D} : loopM tg body (d :: ds) ρ = (noX (tg d) ρ).bnd fun _ ρ1 => (body ρ1).bnd fun fl ρ2 => match fl with
    | .nx => loopM tg body ds ρ2
    | .ct => loopM tg body ds ρ2
    | .bk => .ok .nx ρ2
    | .rt x => .ok (.rt x) ρ2 := by
  rw [loopM, bind_app]
  refine bnd_congr fun _ ρ1 => ?_
  rw [bind_app]
  refine bnd_congr fun fl ρ2 => ?_
  cases fl <;> rfl
@[simp] theorem forL_app {f : M D} {tg : D → M Unit} {body : M Flw} : forL f tg body ρ = (f ρ).bnd fun d ρ1 => match d with
    | .lst _ ds => loopM tg body (fzL ds) ρ1
    | _ => .bad := by
  unfold forL
  rw [bind_app]
  refine bnd_congr fun d ρ1 => ?_
  cases d <;> rfl
@[simp] theorem forS_app {f : M D} {tg : D → M Unit} {body : M Flw} : forS f tg body ρ = (f ρ).bnd fun d ρ1 => match d with
    | .str z => loopM tg body (signsD z) ρ1
    | _ => .bad := by
  unfold forS
  rw [bind_app]
  refine bnd_congr fun d ρ1 => ?_
  cases d <;> rfl
@[simp] theorem forB_app {i : Nat} {tg : D → M Unit} {body : M Flw} : forB i tg body ρ = (peek i ρ).bnd fun a ρ0 => match a with
    | .lst o ds => (loopM tg body (fzL ds) (ρ0.set i none)).bnd fun fl ρ1 => (match fl with
      | .nx => .ok .nx (ρ1.set i (some (.lst o (fzL ds))))
      | x => .ok x ρ1)
    | _ => .bad := by
  unfold forB
  rw [bind_app]
  refine bnd_congr fun a ρ0 => ?_
  cases a with
  | lst o ds =>
    show (setv i none >>= fun _ => _) ρ0 = _
    rw [bind_app, setv_app, bnd_ok, bind_app]
    refine bnd_congr fun fl ρ1 => ?_
    cases fl <;> rfl
  | _ => rfl
@[simp] theorem callM_app {f : List D → FRes} {as : List Opn} : callM f as ρ = (evArgs as ρ).bnd fun os ρ1 => (lendOut as os ρ1).bnd fun ds ρ2 => match f ds with
    | .ok d outs => (noX (lendIn as outs) ρ2).bnd fun _ ρ3 => .ok d ρ3
    | .err x => .err x ρ2
    | .bad => .bad := by
  unfold callM
  rw [bind_app]
  refine bnd_congr fun os ρ1 => ?_
  rw [bind_app]
  refine bnd_congr fun ds ρ2 => ?_
  cases f ds with
  | ok d outs => simp only []; rw [bind_app]; rfl
  | err x => rfl
  | bad => rfl
@[simp] theorem evArgs_nil : evArgs [] ρ = .ok [] ρ := rfl
@[simp] theorem evArgs_tmp {f : M D} {as : List Opn} : evArgs (.tmp f :: as) ρ = (f ρ).bnd fun d ρ1 => (evArgs as ρ1).bnd fun r ρ2 => .ok (some d :: r) ρ2 := by
  rw [evArgs, bind_app]
  refine bnd_congr fun d ρ1 => ?_
  rw [bind_app]
  rfl
@[simp] theorem evArgs_slot {i : Nat} {as : List Opn} : evArgs (.slot i :: as) ρ = (peek i ρ).bnd fun _ ρ1 => (evArgs as ρ1).bnd fun r ρ2 => .ok (none :: r) ρ2 := by
  rw [evArgs, bind_app]
  refine bnd_congr fun d ρ1 => ?_
  rw [bind_app]
  rfl
@[simp] theorem lendOut_nil : lendOut [] [] ρ = .ok [] ρ := rfl
@[simp] theorem lendOut_tmp {f : M D} {as : List Opn} {d : D} {os : List (Option D)} : lendOut (.tmp f :: as) (some d :: os) ρ = (lendOut as os ρ).bnd fun r ρ1 => .ok (d :: r) ρ1 := by
  rw [lendOut, bind_app]
  rfl
@[simp] theorem lendOut_slot {i : Nat} {as : List Opn} {os : List (Option D)} : lendOut (.slot i :: as) (none :: os) ρ = (peek i ρ).bnd fun d ρ1 => (lendOut as os (ρ1.set i none)).bnd fun r ρ2 => .ok (d :: r) ρ2 := by
  rw [lendOut, bind_app]
  refine bnd_congr fun d ρ1 => ?_
  rw [bind_app, setv_app, bnd_ok, bind_app]
  rfl
@[simp] theorem lendIn_nil {ds : List D} : lendIn [] ds ρ = .ok () ρ := by cases ds <;> rfl
@[simp] theorem lendIn_tmp {f : M D} {as : List Opn} {d : D} {ds : List D} : lendIn (.tmp f :: as) (d :: ds) ρ = lendIn as ds ρ := rfl
@[simp] theorem lendIn_slot {i : Nat} {as : List Opn} {d : D} {ds : List D} : lendIn (.slot i :: as) (d :: ds) ρ = (stv i d ρ).bnd fun _ ρ1 => lendIn as ds ρ1 := by
  rw [lendIn, bind_app]
theorem evM1_ft {f h : M D} {g : D → D → Option (D × D × D)} {x : Str} {ρ1 : Env} (e : f ρ = .ok (.str x) ρ1) : evM1 f (.tmp h) g ρ = (h ρ1).bnd fun b ρ2 => match g (.str x) b with | some p => .ok p.1 ρ2 | none => .bad := by
  show (f >>= _) ρ = _
  rw [bind_app, e, bnd_ok]
  show (h >>= _) ρ1 = _
  rw [bind_app]
  refine bnd_congr fun b ρ2 => ?_
  rw [bind_app]
  cases g (.str x) b <;> rfl
theorem evM1_fs {f : M D} {j : Nat} {g : D → D → Option (D × D × D)} {x : Str} {b d a' b' : D} {ρ1 : Env} (e : f ρ = .ok (.str x) ρ1) (hb : ρ1[j]? = some (some b)) (eg : g (.str x) b = some (d, a', b')) (hx : isx b' = false) : evM1 f (.slot j) g ρ = .ok d (ρ1.set j (some b')) := by
  show (f >>= _) ρ = _
  rw [bind_app, e, bnd_ok]
  show (peek j >>= _) ρ1 = _
  rw [bind_app, peek_app hb, bnd_ok, bind_app, eg, optM_some, bnd_ok, bind_app, setq_app hx]
  rfl
@[simp] theorem peek_def {i : Nat} : peek i ρ = (match ρ[i]? with | some (some d) => .ok d ρ | _ => .bad) := rfl
@[simp] theorem rdv_def {i : Nat} : rdv i ρ = (peek i ρ).bnd fun d ρ1 => .ok (fz d) (ρ1.set i (some (fz d))) := by
  unfold rdv
  rw [bind_app]
  rfl
@[simp] theorem mvv_def {i : Nat} : mvv i ρ = (peek i ρ).bnd fun d ρ1 => .ok d (ρ1.set i none) := by
  unfold mvv
  rw [bind_app]
  rfl
@[simp] theorem stv_def {i : Nat} {d : D} : stv i d ρ = if i < ρ.length then (if isx d = true then .bad else .ok () (ρ.set i (some d))) else .bad := rfl
@[simp] theorem setq_def {i : Nat} {d : D} : setq i d ρ = if isx d = true then .bad else .ok () (ρ.set i (some d)) := rfl
@[simp] theorem ev1_def {i : Nat} {g : D → Option (D × D)} : ev1 (.slot i) g ρ = (peek i ρ).bnd fun a ρ1 => match g a with | some p => (setq i p.2 ρ1).bnd fun _ ρ2 => .ok p.1 ρ2 | none => .bad := by
  show (peek i >>= _) ρ = _
  rw [bind_app]
  refine bnd_congr fun a ρ1 => ?_
  rw [bind_app]
  cases g a with
  | none => rfl
  | some p => rw [optM_some, bnd_ok, bind_app]; rfl
@[simp] theorem ev2_st_def {i : Nat} {h : M D} {g : D → D → Option (D × D × D)} : ev2 (.slot i) (.tmp h) g ρ = (peek i ρ).bnd fun _ ρ0 => (h ρ0).bnd fun b ρ1 => (peek i ρ1).bnd fun a ρ2 => match g a b with | some p => (setq i p.2.1 ρ2).bnd fun _ ρ3 => .ok p.1 ρ3 | none => .bad := by
  show (peek i >>= _) ρ = _
  rw [bind_app]
  refine bnd_congr fun a0 ρ0 => ?_
  rw [bind_app]
  refine bnd_congr fun b ρ1 => ?_
  rw [bind_app]
  refine bnd_congr fun a ρ2 => ?_
  rw [bind_app]
  cases g a b with
  | none => rfl
  | some p => rw [optM_some, bnd_ok, bind_app]; rfl
@[simp] theorem ev2_ss_def {i j : Nat} {g : D → D → Option (D × D × D)} : ev2 (.slot i) (.slot j) g ρ = (peek i ρ).bnd fun a ρ1 => (peek j ρ1).bnd fun b ρ2 => if i = j then .bad else match g a b with | some p => (setq i p.2.1 ρ2).bnd fun _ ρ3 => (setq j p.2.2 ρ3).bnd fun _ ρ4 => .ok p.1 ρ4 | none => .bad := by
  show (peek i >>= _) ρ = _
  rw [bind_app]
  refine bnd_congr fun a ρ1 => ?_
  rw [bind_app]
  refine bnd_congr fun b ρ2 => ?_
  by_cases h : i = j
  · rw [if_pos h, if_pos h]; rfl
  · rw [if_neg h, if_neg h, bind_app]
    cases g a b with
    | none => rfl
    | some p =>
      rw [optM_some, bnd_ok, bind_app]
      refine bnd_congr fun _ ρ3 => ?_
      rw [bind_app]
      rfl
@[simp] theorem evT_def {i : Nat} : evT (.slot i) ρ = (peek i ρ).bnd fun a ρ1 => match tru a with | some b => .ok b ρ1 | none => .bad := by
  show (peek i >>= _) ρ = _
  rw [bind_app]
  refine bnd_congr fun a ρ1 => ?_
  cases tru a <;> rfl
@[simp] theorem appM_app {i : Nat} {f : M D} : appM i f ρ = (peek i ρ).bnd fun a0 ρ0 => match a0 with
    | .lst _ _ => (f ρ0).bnd fun d ρ1 => (peek i ρ1).bnd fun a ρ2 => (match a with
      | .lst true xs => if xs.length < sizeLine then .ok .non (ρ2.set i (some (.lst true (xs ++ [d])))) else .bad
      | _ => .bad)
    | _ => .bad := by
  unfold appM
  rw [bind_app]
  refine bnd_congr fun a0 ρ0 => ?_
  cases a0 with
  | lst o xs0 =>
    show (f >>= _) ρ0 = _
    rw [bind_app]
    refine bnd_congr fun d ρ1 => ?_
    rw [bind_app]
    refine bnd_congr fun a ρ2 => ?_
    cases a with
    | lst o xs =>
      cases o with
      | true => by_cases z : xs.length < sizeLine <;> simp [z] <;> rfl
      | false => rfl
    | _ => rfl
  | _ => rfl
end
end Mir
namespace Mir
open PySem PySem.Spec PyProof.Rows L2
section
variable {i j : Int} {x y : Str} {b b' : Bool} {xs ys : List D} {o : Bool} {d : D} {ds : List D}
@[simp] theorem isx_int : isx (.int i) = false := rfl
@[simp] theorem isx_str : isx (.str x) = false := rfl
@[simp] theorem isx_bl : isx (.bl b) = false := rfl
@[simp] theorem isx_non : isx .non = false := rfl
@[simp] theorem isx_lst : isx (.lst o xs) = false := rfl
@[simp] theorem isx_tup : isx (.tup xs) = false := rfl
@[simp] theorem isx_seq {vs : List V} : isx (.seq vs) = false := rfl
@[simp] theorem isx_exn : isx .exn = true := rfl
@[simp] theorem fz_int : fz (.int i) = .int i := rfl
@[simp] theorem fz_str : fz (.str x) = .str x := rfl
@[simp] theorem fz_bl : fz (.bl b) = .bl b := rfl
@[simp] theorem fz_non : fz .non = .non := rfl
@[simp] theorem fz_lst : fz (.lst o xs) = .lst false (fzL xs) := rfl
@[simp] theorem fz_tup : fz (.tup xs) = .tup (fzL xs) := rfl
@[simp] theorem fz_seq {vs : List V} : fz (.seq vs) = .seq vs := rfl
@[simp] theorem fz_exn : fz .exn = .exn := rfl
@[simp] theorem fzL_nil : fzL [] = [] := rfl
@[simp] theorem fzL_cons : fzL (d :: ds) = fz d :: fzL ds := rfl
@[simp] theorem oLe_ii : oLe (.int i) (.int j) = some (.bl (decide (i ≤ j)), .int i, .int j) := rfl
@[simp] theorem oLt_ii : oLt (.int i) (.int j) = some (.bl (decide (i < j)), .int i, .int j) := rfl
@[simp] theorem oGt_ii : oGt (.int i) (.int j) = some (.bl (decide (j < i)), .int i, .int j) := rfl
@[simp] theorem oGe_ii : oGe (.int i) (.int j) = some (.bl (decide (j ≤ i)), .int i, .int j) := rfl
@[simp] theorem oAdd_ii : oAdd (.int i) (.int j) = some (.int (i + j), .int i, .int j) := rfl
@[simp] theorem oSub_ii : oSub (.int i) (.int j) = some (.int (i - j), .int i, .int j) := rfl
@[simp] theorem oPlus_ii : oPlus (.int i) (.int j) = some (.int (i + j), .int i, .int j) := rfl
theorem oMul_ii (h : mulB i j = true) : oMul (.int i) (.int j) = some (.int (i * j), .int i, .int j) := by unfold oMul iop; simp [h]
theorem oMod_ii (h : 0 < j) : oMod (.int i) (.int j) = some (.int (i % j), .int i, .int j) := by unfold oMod iop modB; simp [h]
theorem oDiv_ii (h : 0 < j) (h2 : j.natAbs.log2 < 9000) : oDiv (.int i) (.int j) = some (.int (i / j), .int i, .int j) := by unfold oDiv iop divB; simp [h, h2]
theorem oPlus_ss (h : x.length + y.length ≤ sizeLine) : oPlus (.str x) (.str y) = some (.str (x ++ y), .str x, .str y) := by
  unfold oPlus oAdd oCatS
  simp [iop, h]
theorem shp_i : SeqAt.shaped (PyData.int i) = true := rfl
def cpOk (x : Str) : Bool := x.cps.all (· < 0x110000)
theorem shp_s (h : cpOk x = true) : SeqAt.shaped (PyData.str x) = true := by
  unfold SeqAt.shaped
  rw [Bool.and_eq_true]
  exact ⟨h, rfl⟩
@[simp] theorem oEq_ii : oEq (.int i) (.int j) = some (.bl (decide (i = j)), .int i, .int j) := by
  unfold oEq deq
  simp [toP, PyData.eqv, shp_i]
  try (by_cases h : i = j <;> simp [h, shp_i])
theorem oEq_ss (hx : cpOk x = true) (hy : cpOk y = true) : oEq (.str x) (.str y) = some (.bl (decide (x = y)), .str x, .str y) := by
  unfold oEq deq
  simp [toP, PyData.eqv, shp_s hx, shp_s hy]
  try (by_cases h : x = y <;> simp [h, shp_s hx, shp_s hy])
@[simp] theorem oEq_bb : oEq (.bl b) (.bl b') = some (.bl (decide (b = b')), .bl b, .bl b') := by
  unfold oEq deq
  cases b <;> cases b' <;> rfl
@[simp] theorem oNe_bb : oNe (.bl b) (.bl b') = some (.bl (!decide (b = b')), .bl b, .bl b') := by
  unfold oNe deq
  cases b <;> cases b' <;> rfl
theorem oNe_ss (hx : cpOk x = true) (hy : cpOk y = true) : oNe (.str x) (.str y) = some (.bl (!decide (x = y)), .str x, .str y) := by
  unfold oNe deq
  simp [toP, PyData.eqv, shp_s hx, shp_s hy]
  try (by_cases h : x = y <;> simp [h, shp_s hx, shp_s hy])
@[simp] theorem oInt_i : oInt (.int i) = some (.int i, .int i) := rfl
@[simp] theorem oLen_l : oLen (.lst o xs) = some (.int (xs.length : Nat), .lst o xs) := rfl
@[simp] theorem oLen_t : oLen (.tup xs) = some (.int (xs.length : Nat), .tup xs) := rfl
@[simp] theorem oLen_q {vs : List V} : oLen (.seq vs) = some (.int (vs.length : Nat), .seq vs) := rfl
@[simp] theorem oNeg_i : oNeg (.int i) = some (.int (-i), .int i) := rfl
@[simp] theorem tru_bl : tru (.bl b) = some b := rfl
@[simp] theorem tru_int : tru (.int i) = some (i != 0) := rfl
@[simp] theorem oIs_lst : oIs (.lst o xs) .non = some (.bl false, .lst o xs, .non) := rfl
@[simp] theorem oIs_tup : oIs (.tup xs) .non = some (.bl false, .tup xs, .non) := rfl
@[simp] theorem oIs_non : oIs .non .non = some (.bl true, .non, .non) := rfl
@[simp] theorem oIs_str : oIs (.str x) .non = some (.bl false, .str x, .non) := rfl
@[simp] theorem oIs_int : oIs (.int i) .non = some (.bl false, .int i, .non) := rfl
@[simp] theorem oIsN_lst : oIsNot (.lst o xs) .non = some (.bl true, .lst o xs, .non) := rfl
@[simp] theorem oIsN_tup : oIsNot (.tup xs) .non = some (.bl true, .tup xs, .non) := rfl
@[simp] theorem oIsN_non : oIsNot .non .non = some (.bl false, .non, .non) := rfl
theorem oIx_l {k : Nat} (h : ixN xs.length i = some k) (hd : xs[k]? = some d) : oIx (.lst o xs) (.int i) = some (fz d, .lst o (xs.set k (fz d)), .int i) := by unfold oIx; simp [h, hd]
theorem oIx_t {k : Nat} (h : ixN xs.length i = some k) (hd : xs[k]? = some d) : oIx (.tup xs) (.int i) = some (fz d, .tup (xs.set k (fz d)), .int i) := by unfold oIx; simp [h, hd]
end
end Mir
namespace Mir
open PySem PySem.Spec PyProof.Rows L2
section
variable {ρ : Env}
@[simp] theorem lcL_app {vs : List Nat} {f : M D} {tg : D → M Unit} {tst : M Bool} {elt : M D} : lcL vs f tg tst elt ρ = (f ρ).bnd fun d ρ1 => match d with
    | .lst _ ds => (noX (compM vs tg tst elt (fzL ds) []) (wipeD ρ1 vs)).bnd fun r ρ2 => .ok (.lst true r) ρ2
    | _ => .bad := by
  unfold lcL
  rw [bind_app]
  refine bnd_congr fun d ρ1 => ?_
  cases d with
  | lst o ds =>
    show (wipeM vs >>= fun _ => _) ρ1 = _
    rw [bind_app]
    show (noX (compM vs tg tst elt (fzL ds) []) >>= fun r => _) (wipeD ρ1 vs) = _
    rw [bind_app]
    rfl
  | _ => rfl
@[simp] theorem lcB_app {vs : List Nat} {i : Nat} {tg : D → M Unit} {tst : M Bool} {elt : M D} : lcB vs i tg tst elt ρ = (peek i ρ).bnd fun d ρ1 => match d with
    | .lst o ds => (noX (compM vs tg tst elt (fzL ds) []) (wipeD (ρ1.set i none) vs)).bnd fun r ρ2 => .ok (.lst true r) (ρ2.set i (some (.lst o (fzL ds))))
    | _ => .bad := by
  unfold lcB
  rw [bind_app]
  refine bnd_congr fun d ρ1 => ?_
  cases d with
  | lst o ds =>
    show (setv i none >>= fun _ => _) ρ1 = _
    rw [bind_app]
    show (wipeM vs >>= fun _ => _) (ρ1.set i none) = _
    rw [bind_app]
    show (noX (compM vs tg tst elt (fzL ds) []) >>= fun r => _) (wipeD (ρ1.set i none) vs) = _
    rw [bind_app]
    rfl
  | _ => rfl
@[simp] theorem lcR_app {vs : List Nat} {lo : Int} {n : Nat} {tg : D → M Unit} {tst : M Bool} {elt : M D} : lcR vs lo n tg tst elt ρ = (noX (compM vs tg tst elt (rangeD lo n) []) (wipeD ρ vs)).bnd fun r ρ2 => .ok (.lst true r) ρ2 := by
  unfold lcR
  rw [bind_app]
  show (noX (compM vs tg tst elt (rangeD lo n) []) >>= fun r => _) (wipeD ρ vs) = _
  rw [bind_app]
  rfl
@[simp] theorem lcR1_app {vs : List Nat} {f : M (List D)} {tg : D → M Unit} {tst : M Bool} {elt : M D} : lcR1 vs f tg tst elt ρ = (f ρ).bnd fun ds ρ1 => match ds with
    | [.int j] => if inR j = true then lcR vs 0 j.toNat tg tst elt ρ1 else .bad
    | _ => .bad := by
  unfold lcR1
  rw [bind_app]
  refine bnd_congr fun ds ρ1 => ?_
  split
  · rename_i j
    by_cases h : inR j = true
    · simp only [h, if_true]
    · simp only [h, if_false]
      rfl
  · rename_i h
    first
    | rfl
    | (split
       · rename_i j
         exact absurd rfl (h j)
       · rfl)
inductive All2 {α β : Type} (P : α → β → Prop) : List α → List β → Prop
  | nil : All2 P [] []
  | cons {a : α} {b : β} {as : List α} {bs : List β} : P a b → All2 P as bs → All2 P (a :: as) (b :: bs)
/-- a comprehension that keeps I: a thing for each -/
theorem compM_run {vs : List Nat} {tg : D → M Unit} {elt : M D} {I : Env → Prop} {P : D → D → Prop} (hw : ∀ ρ, I ρ → wipeD ρ vs = ρ) :
    ∀ (ds acc : List D) (ρ : Env), (∀ d ∈ ds, ∀ ρ, I ρ → ∃ ρ1 y ρ2, tg d ρ = .ok () ρ1 ∧ elt ρ1 = .ok y ρ2 ∧ P d y ∧ I (wipeD ρ2 vs)) → I ρ → acc.length + ds.length ≤ sizeLine →
      ∃ ys ρ', noX (compM vs tg (pure true) elt ds acc) ρ = .ok (acc ++ ys) ρ' ∧ I ρ' ∧ All2 P ds ys
  | [], acc, ρ, h, hI, hl => by
    refine ⟨[], ρ, ?_, hI, .nil⟩
    rw [noX_app, compM, bind_app]
    show (match (pure acc : M (List D)) (wipeD ρ vs) with | .err _ _ => Out.bad | o => o) = _
    rw [hw ρ hI, List.append_nil]
    rfl
  | d :: ds, acc, ρ, h, hI, hl => by
    obtain ⟨ρ1, y, ρ2, e1, e2, hP, hI2⟩ := h d List.mem_cons_self ρ hI
    have hl' : acc.length + (ds.length + 1) ≤ sizeLine := hl
    obtain ⟨ys, ρ', e3, hI3, hF⟩ := compM_run hw ds (acc ++ [y]) (wipeD ρ2 vs) (fun d' hd' => h d' (List.mem_cons_of_mem _ hd')) hI2 (by rw [List.length_append, List.length_singleton]; omega)
    refine ⟨y :: ys, ρ', ?_, hI3, .cons hP hF⟩
    rw [noX_app] at e3 ⊢
    rw [compM, bind_app, noX_ok e1, bnd_ok, bind_app, noX_ok (f := (pure true : M Bool)) (a := true) (ρ' := ρ1) rfl, bnd_ok, if_pos rfl, bind_app, noX_ok e2, bnd_ok, if_pos (by omega), bind_app]
    have ew : wipeM vs ρ2 = .ok () (wipeD ρ2 vs) := rfl
    rw [ew, bnd_ok, e3, List.append_assoc]
    rfl
theorem rangeD_len {lo : Int} {n : Nat} : (rangeD lo n).length = n := by unfold rangeD; simp
theorem forall2_len {P : D → D → Prop} {xs ys : List D} (h : All2 P xs ys) : xs.length = ys.length := by
  induction h with
  | nil => rfl
  | cons _ _ ih => rw [List.length_cons, List.length_cons, ih]
theorem forall2_right {P : D → Prop} {xs ys : List D} (h : All2 (fun _ y => P y) xs ys) : ∀ y ∈ ys, P y := by
  induction h with
  | nil => intro y hy; cases hy
  | cons hp _ ih =>
    intro y hy
    rcases List.mem_cons.mp hy with e | e
    · rw [e]; exact hp
    · exact ih y e
end
end Mir
namespace Mir
open PySem PySem.Spec PyProof.Rows L2
section
variable {ρ : Env}
@[simp] theorem noX_stv {i : Nat} {d : D} : noX (stv i d) ρ = stv i d ρ := by
  rw [noX_app]
  unfold stv
  split
  · rename_i h
    split at h
    · split at h <;> cases h
    · cases h
  · rfl
theorem noErr {α : Type} {f : M α} (h : ∀ x r, f ρ ≠ .err x r) : noX f ρ = f ρ := by
  rw [noX_app]
  split
  · rename_i x r e
    exact absurd e (h x r)
  · rfl
@[simp] theorem noX_lend {as : List Opn} : ∀ {ds : List D}, noX (lendIn as ds) ρ = lendIn as ds ρ := by
  intro ds
  apply noErr
  induction as generalizing ds ρ with
  | nil => intro x r; rw [lendIn_nil]; intro z; cases z
  | cons o as ih =>
    intro x r
    cases o with
    | tmp f =>
      cases ds with
      | nil => intro z; cases z
      | cons d ds => rw [lendIn_tmp]; exact ih x r
    | slot i =>
      cases ds with
      | nil => intro z; cases z
      | cons d ds =>
        rw [lendIn_slot]
        unfold stv
        split
        · split
          · intro z; cases z
          · exact ih x r
        · intro z; cases z
@[simp] theorem evM1_pt {h : M D} {g : D → D → Option (D × D × D)} {x : Str} : evM1 (pure (.str x)) (.tmp h) g ρ = (h ρ).bnd fun b ρ2 => match g (.str x) b with | some p => .ok p.1 ρ2 | none => .bad := evM1_ft (f := pure (.str x)) (ρ1 := ρ) rfl
@[simp] theorem evM1_def {f h : M D} {g : D → D → Option (D × D × D)} : evM1 f (.tmp h) g ρ = (f ρ).bnd fun a ρ1 => match a with
    | .str x => (h ρ1).bnd fun b ρ2 => (match g (.str x) b with | some p => .ok p.1 ρ2 | none => .bad)
    | _ => .bad := by
  show (f >>= _) ρ = _
  rw [bind_app]
  refine bnd_congr fun a ρ1 => ?_
  cases a with
  | str x =>
    show (h >>= _) ρ1 = _
    rw [bind_app]
    refine bnd_congr fun b ρ2 => ?_
    rw [bind_app]
    cases g (.str x) b <;> rfl
  | _ => rfl
@[simp] theorem evM1_sdef {f : M D} {j : Nat} {g : D → D → Option (D × D × D)} : evM1 f (.slot j) g ρ = (f ρ).bnd fun a ρ1 => match a with
    | .str x => (peek j ρ1).bnd fun b ρ2 => (match g (.str x) b with | some p => (setq j p.2.2 ρ2).bnd fun _ ρ3 => .ok p.1 ρ3 | none => .bad)
    | _ => .bad := by
  show (f >>= _) ρ = _
  rw [bind_app]
  refine bnd_congr fun a ρ1 => ?_
  cases a with
  | str x =>
    show (peek j >>= _) ρ1 = _
    rw [bind_app]
    refine bnd_congr fun b ρ2 => ?_
    rw [bind_app]
    cases g (.str x) b with
    | none => rfl
    | some p => rw [optM_some, bnd_ok, bind_app]; rfl
  | _ => rfl
end
end Mir
namespace Mir
open PySem PySem.Spec PyProof.Rows L2
theorem seq_step {f g : M Flw} {ρ ρ1 : Env} {o : Out Flw} (h : f ρ = .ok .nx ρ1) (k : g ρ1 = o) : seqM f g ρ = o := by
  rw [seqM_app, h]
  exact k
theorem seq_ret {f g : M Flw} {ρ ρ1 : Env} {d : D} (h : f ρ = .ok (.rt d) ρ1) : seqM f g ρ = .ok (.rt d) ρ1 := by
  rw [seqM_app, h]
  rfl
theorem seq_err {f g : M Flw} {ρ ρ1 : Env} {x : Exn} (h : f ρ = .err x ρ1) : seqM f g ρ = .err x ρ1 := by
  rw [seqM_app, h]
  rfl
theorem def_rt {m : Nat} {ln : List Bool} {g : M Flw} {ds outs : List D} {d : D} {ρ' : Env} (h : g (Mir.envOf m ds) = .ok (.rt d) ρ') (ho : outsOf ln ρ' = some outs) (hl : ln.length = ds.length) (hx : (ds.any isx) = false) : defF m ln g ds = .ok d outs := by
  unfold defF
  rw [if_pos ⟨hl, hx⟩, h]
  simp only [finF, ho]
theorem def_err {m : Nat} {ln : List Bool} {g : M Flw} {ds : List D} {x : Exn} {ρ' : Env} (h : g (Mir.envOf m ds) = .err x ρ') (hl : ln.length = ds.length) (hx : (ds.any isx) = false) : defF m ln g ds = .err x := by
  unfold defF
  rw [if_pos ⟨hl, hx⟩, h]
  rfl
end Mir
namespace Mir
open PySem PySem.Spec PyProof.Rows L2
section
variable {ρ : Env}
@[simp] theorem evPo_none : evPo none ρ = .ok none ρ := rfl
@[simp] theorem evPo_some {f : M D} : evPo (some f) ρ = (f ρ).bnd fun d ρ1 => match d with | .int i => .ok (some i) ρ1 | _ => .bad := by
  show (f >>= _) ρ = _
  rw [bind_app]
  refine bnd_congr fun d ρ1 => ?_
  cases d <;> rfl
@[simp] theorem evS_slot {i : Nat} {lo hi : Option (M D)} {g : D → Option Int → Option Int → Option (D × D)} : evS (.slot i) lo hi g ρ = (peek i ρ).bnd fun _ ρ0 => (evPo lo ρ0).bnd fun l ρ1 => (evPo hi ρ1).bnd fun u ρ2 => (peek i ρ2).bnd fun a ρ3 => match g a l u with
    | some p => (setq i p.2 ρ3).bnd fun _ ρ4 => .ok p.1 ρ4
    | none => .bad := by
  show (peek i >>= _) ρ = _
  rw [bind_app]
  refine bnd_congr fun a0 ρ0 => ?_
  rw [bind_app]
  refine bnd_congr fun l ρ1 => ?_
  rw [bind_app]
  refine bnd_congr fun u ρ2 => ?_
  rw [bind_app]
  refine bnd_congr fun a ρ3 => ?_
  rw [bind_app]
  cases g a l u with
  | none => rfl
  | some p => rw [optM_some, bnd_ok, bind_app]; rfl
theorem cut_init {α : Type} {xs : List α} : cutL xs none (some (-1)) = xs.dropLast := by
  unfold cutL
  rw [List.dropLast_eq_take]
  show (xs.drop 0).take ((if (-1 : Int) < 0 then (-1 + (xs.length : Int)).toNat else min (-1 : Int).toNat xs.length) - 0) = xs.take (xs.length - 1)
  rw [if_pos (by decide), List.drop_zero]
  congr 1
  omega
theorem ixN_last {n : Nat} (h : 0 < n) : ixN n (-1) = some (n - 1) := by
  unfold ixN
  rw [if_neg (by decide), if_pos (by omega)]
  congr 1
  omega
end
end Mir
namespace Mir
open PySem PySem.Spec PyProof.Rows L2
section
variable {ρ : Env}
@[simp] theorem isxM_app {et : ETab} {x : Exn} {i : Nat} {ans : Str → Bool} : isxM et x i ans ρ = (peek i ρ).bnd fun d ρ1 => if isx d = true ∧ (et.any fun p => p.1 == x.cls) = true then .ok (.bl (ans x.cls)) ρ1 else .bad := by
  unfold isxM
  rw [bind_app]
  refine bnd_congr fun d ρ1 => ?_
  by_cases h : isx d = true ∧ (et.any fun p => p.1 == x.cls) = true
  · rw [if_pos h, if_pos h]; rfl
  · rw [if_neg h, if_neg h]; rfl
@[simp] theorem fldM_app {et : ETab} {x : Exn} {i : Nat} {f : Str} : fldM et x i f ρ = (peek i ρ).bnd fun d ρ1 => if isx d = true ∧ (et.any fun p => p.1 == x.cls && p.2.contains f) = true then (match (x.fs.zip x.xs).lookup f with | some e => .ok (fz e) ρ1 | none => .bad) else .bad := by
  unfold fldM
  rw [bind_app]
  refine bnd_congr fun d ρ1 => ?_
  by_cases h : isx d = true ∧ (et.any fun p => p.1 == x.cls && p.2.contains f) = true
  · rw [if_pos h, if_pos h]
    cases (x.fs.zip x.xs).lookup f <;> rfl
  · rw [if_neg h, if_neg h]; rfl
@[simp] theorem callX_app {f : List D → FRes} {i : Nat} : callX f i ρ = (peek i ρ).bnd fun d ρ1 => if isx d = true then (match f [.exn] with | .ok r _ => .ok r ρ1 | _ => .bad) else .bad := by
  unfold callX
  rw [bind_app]
  refine bnd_congr fun d ρ1 => ?_
  by_cases h : isx d = true
  · rw [if_pos h, if_pos h]
    cases f [.exn] <;> rfl
  · rw [if_neg h, if_neg h]; rfl
theorem tryM_ok {i : Nat} {tbl : Str → Option Bool} {gb : M Flw} {gs : Exn → M Flw} {fl : Flw} {ρ1 : Env} (h : gb ρ = .ok fl ρ1) : tryM i tbl gb gs ρ = .ok fl ρ1 := by
  unfold tryM
  rw [h]
theorem tryM_err {i : Nat} {tbl : Str → Option Bool} {gb : M Flw} {gs : Exn → M Flw} {fl : Flw} {x : Exn} {ρ1 ρ2 : Env} (h : gb ρ = .err x ρ1) (ht : tbl x.cls = some true) (hi : i < ρ1.length) (hg : gs (heldX x) (ρ1.set i (some .exn)) = .ok fl ρ2) (hn : noExn (ρ2.set i none) = true) :
    tryM i tbl gb gs ρ = .ok fl (ρ2.set i none) := by
  unfold tryM
  rw [h]
  simp only [ht, hi, if_true, hg, exitM, hn]
theorem defX_rt {m : Nat} {ln : List Bool} {g : M Flw} {ds outs : List D} {d : D} {ρ' : Env} (h : g (Mir.envOf m ds) = .ok (.rt d) ρ') (ho : outsOf ln ρ' = some outs) (hl : ln.length = ds.length) (h0 : isx (ds.headD .non) = true) (hx : (ds.tail.any isx) = false) : defX m ln g ds = .ok d outs := by
  unfold defX
  rw [if_pos ⟨hl, h0, hx⟩, h]
  simp only [finF, ho]
end
end Mir
end
section
set_option Elab.async false
set_option linter.all false
set_option maxRecDepth 100000
set_option maxHeartbeats 4000000
namespace K00
open PySem PySem.Spec PyProof.Rows L2 Mir
def topS (i : Nat) : Stmt := PySem.Challenge.pw_fourbells_k00_scanned_lines.main.body.getD i (.Pass ⟨0, 0, 0, 0⟩)
def v_SIGNS : Str := (PySem.Str.ofString "abcdefghijklmnopqrstuvwxyz0123456789,:>-")
def et0 : ETab := [("TooMany", ["what"]), ("BadNet", ["what", "number"]), ("BadLots", ["what", "row"]), ("BadWant", ["what", "place"]), ("BadOutage", ["row"]), ("BadStanding", ["valve"]), ("Unsafe", ["word"]), ("BadTask", ["what"]), ("BadAsk", ["ask"]), ("BadPlan", ["bell"]), ("BadLook", ["row"]), ("BadCourse", ["act"]), ("BadText", ["line"]), ("BadDeed", ["what"])]
abbrev clsOf (K : PySem.W.Frag) : Str → Option Addr := clsE et0 K
theorem cls_TooMany (K : PySem.W.Frag) : clsOf K "TooMany" = some (He.ga K "TooMany") := by show clsE et0 K _ = _; unfold clsE; rw [if_pos (by decide)]
theorem cls_BadNet (K : PySem.W.Frag) : clsOf K "BadNet" = some (He.ga K "BadNet") := by show clsE et0 K _ = _; unfold clsE; rw [if_pos (by decide)]
theorem cls_BadLots (K : PySem.W.Frag) : clsOf K "BadLots" = some (He.ga K "BadLots") := by show clsE et0 K _ = _; unfold clsE; rw [if_pos (by decide)]
theorem cls_BadWant (K : PySem.W.Frag) : clsOf K "BadWant" = some (He.ga K "BadWant") := by show clsE et0 K _ = _; unfold clsE; rw [if_pos (by decide)]
theorem cls_BadOutage (K : PySem.W.Frag) : clsOf K "BadOutage" = some (He.ga K "BadOutage") := by show clsE et0 K _ = _; unfold clsE; rw [if_pos (by decide)]
theorem cls_BadStanding (K : PySem.W.Frag) : clsOf K "BadStanding" = some (He.ga K "BadStanding") := by show clsE et0 K _ = _; unfold clsE; rw [if_pos (by decide)]
theorem cls_Unsafe (K : PySem.W.Frag) : clsOf K "Unsafe" = some (He.ga K "Unsafe") := by show clsE et0 K _ = _; unfold clsE; rw [if_pos (by decide)]
theorem cls_BadTask (K : PySem.W.Frag) : clsOf K "BadTask" = some (He.ga K "BadTask") := by show clsE et0 K _ = _; unfold clsE; rw [if_pos (by decide)]
theorem cls_BadAsk (K : PySem.W.Frag) : clsOf K "BadAsk" = some (He.ga K "BadAsk") := by show clsE et0 K _ = _; unfold clsE; rw [if_pos (by decide)]
theorem cls_BadPlan (K : PySem.W.Frag) : clsOf K "BadPlan" = some (He.ga K "BadPlan") := by show clsE et0 K _ = _; unfold clsE; rw [if_pos (by decide)]
theorem cls_BadLook (K : PySem.W.Frag) : clsOf K "BadLook" = some (He.ga K "BadLook") := by show clsE et0 K _ = _; unfold clsE; rw [if_pos (by decide)]
theorem cls_BadCourse (K : PySem.W.Frag) : clsOf K "BadCourse" = some (He.ga K "BadCourse") := by show clsE et0 K _ = _; unfold clsE; rw [if_pos (by decide)]
theorem cls_BadText (K : PySem.W.Frag) : clsOf K "BadText" = some (He.ga K "BadText") := by show clsE et0 K _ = _; unfold clsE; rw [if_pos (by decide)]
theorem cls_BadDeed (K : PySem.W.Frag) : clsOf K "BadDeed" = some (He.ga K "BadDeed") := by show clsE et0 K _ = _; unfold clsE; rw [if_pos (by decide)]
def ans_BadAsk (nm : Str) : Bool := nm == "BadAsk"
def tbl_BadAsk (nm : Str) : Option Bool := if (et0.any fun p => p.1 == nm) = true then some (ans_BadAsk nm) else none
def ans_BadCourse (nm : Str) : Bool := nm == "BadCourse"
def tbl_BadCourse (nm : Str) : Option Bool := if (et0.any fun p => p.1 == nm) = true then some (ans_BadCourse nm) else none
def ans_BadDeed (nm : Str) : Bool := nm == "BadDeed"
def tbl_BadDeed (nm : Str) : Option Bool := if (et0.any fun p => p.1 == nm) = true then some (ans_BadDeed nm) else none
def ans_BadLook (nm : Str) : Bool := nm == "BadLook"
def tbl_BadLook (nm : Str) : Option Bool := if (et0.any fun p => p.1 == nm) = true then some (ans_BadLook nm) else none
def ans_BadLots (nm : Str) : Bool := nm == "BadLots"
def tbl_BadLots (nm : Str) : Option Bool := if (et0.any fun p => p.1 == nm) = true then some (ans_BadLots nm) else none
def ans_BadNet (nm : Str) : Bool := nm == "BadNet"
def tbl_BadNet (nm : Str) : Option Bool := if (et0.any fun p => p.1 == nm) = true then some (ans_BadNet nm) else none
def ans_BadOutage (nm : Str) : Bool := nm == "BadOutage"
def tbl_BadOutage (nm : Str) : Option Bool := if (et0.any fun p => p.1 == nm) = true then some (ans_BadOutage nm) else none
def ans_BadPlan (nm : Str) : Bool := nm == "BadPlan"
def tbl_BadPlan (nm : Str) : Option Bool := if (et0.any fun p => p.1 == nm) = true then some (ans_BadPlan nm) else none
def ans_BadStanding (nm : Str) : Bool := nm == "BadStanding"
def tbl_BadStanding (nm : Str) : Option Bool := if (et0.any fun p => p.1 == nm) = true then some (ans_BadStanding nm) else none
def ans_BadTask (nm : Str) : Bool := nm == "BadTask"
def tbl_BadTask (nm : Str) : Option Bool := if (et0.any fun p => p.1 == nm) = true then some (ans_BadTask nm) else none
def ans_BadText (nm : Str) : Bool := nm == "BadText"
def tbl_BadText (nm : Str) : Option Bool := if (et0.any fun p => p.1 == nm) = true then some (ans_BadText nm) else none
def ans_BadWant (nm : Str) : Bool := nm == "BadWant"
def tbl_BadWant (nm : Str) : Option Bool := if (et0.any fun p => p.1 == nm) = true then some (ans_BadWant nm) else none
def ans_TooMany (nm : Str) : Bool := nm == "TooMany"
def tbl_TooMany (nm : Str) : Option Bool := if (et0.any fun p => p.1 == nm) = true then some (ans_TooMany nm) else none
def ans_Unsafe (nm : Str) : Bool := nm == "Unsafe"
def tbl_Unsafe (nm : Str) : Option Bool := if (et0.any fun p => p.1 == nm) = true then some (ans_Unsafe nm) else none
def ans_WorksError (_ : Str) : Bool := true
def tbl_WorksError (nm : Str) : Option Bool := if (et0.any fun p => p.1 == nm) = true then some (ans_WorksError nm) else none
/-- what the top has written -/
structure Txt (P : Program) (K : PySem.W.Frag) (mg : Str → Option Value) : Prop where
  l_line_words : Lk K mg "line_words" (topS 18) ["line"]
  l_split_text : Lk K mg "split_text" (topS 19) ["text"]
  l_scan_text : Lk K mg "scan_text" (topS 20) ["text"]
  l__law_source : Lk K mg "_law_source" (topS 22) ["script", "at"]
  l__law_pick : Lk K mg "_law_pick" (topS 23) ["s", "many"]
  l__law_same : Lk K mg "_law_same" (topS 24) ["answer", "due"]
  l__law_fault : Lk K mg "_law_fault" (topS 25) ["error"]
  l__law_a_word : Lk K mg "_law_a_word" (topS 26) ["s"]
  l__law_a_scan : Lk K mg "_law_a_scan" (topS 27) ["text"]
  l__law_a_foreign : Lk K mg "_law_a_foreign" (topS 28) ["s"]
  l__law_a_wrong : Lk K mg "_law_a_wrong" (topS 29) ["s", "row", "kind"]
  l__law_a_lines : Lk K mg "_law_a_lines" (topS 30) ["lines"]
  l_law : Lk K mg "law" (topS 31) ["script"]
  n_all : mg "all" = none
  n_bool : mg "bool" = none
  n_dict : mg "dict" = none
  n_int : mg "int" = none
  n_isinstance : mg "isinstance" = none
  n_len : mg "len" = none
  n_list : mg "list" = none
  n_range : mg "range" = none
  n_str : mg "str" = none
  n_tuple : mg "tuple" = none
  c_SIGNS : ∃ t, mg "SIGNS" = some (.str v_SIGNS t)
  et : ETxt K (clsOf K) et0
  e_BadText : MirE.ErrTxt P K mg "BadText" ["line"] false (PySem.Str.ofString "bad text") (He.ga K "BadText") (He.ma K (He.ga K "BadText") "__init__")
  g_BadAsk : mg "BadAsk" = some (.ref (He.ga K "BadAsk"))
  g_BadCourse : mg "BadCourse" = some (.ref (He.ga K "BadCourse"))
  g_BadDeed : mg "BadDeed" = some (.ref (He.ga K "BadDeed"))
  g_BadLook : mg "BadLook" = some (.ref (He.ga K "BadLook"))
  g_BadLots : mg "BadLots" = some (.ref (He.ga K "BadLots"))
  g_BadNet : mg "BadNet" = some (.ref (He.ga K "BadNet"))
  g_BadOutage : mg "BadOutage" = some (.ref (He.ga K "BadOutage"))
  g_BadPlan : mg "BadPlan" = some (.ref (He.ga K "BadPlan"))
  g_BadStanding : mg "BadStanding" = some (.ref (He.ga K "BadStanding"))
  g_BadTask : mg "BadTask" = some (.ref (He.ga K "BadTask"))
  g_BadText : mg "BadText" = some (.ref (He.ga K "BadText"))
  g_BadWant : mg "BadWant" = some (.ref (He.ga K "BadWant"))
  g_TooMany : mg "TooMany" = some (.ref (He.ga K "TooMany"))
  g_Unsafe : mg "Unsafe" = some (.ref (He.ga K "Unsafe"))
  g_WorksError : mg "WorksError" = some (.ref (He.ga K "WorksError"))
  k_BadAsk : ∀ p ∈ et0, ∀ A, clsOf K p.1 = some A → PySem.W.kitOne K (.ref A) (.ref (He.ga K "BadAsk")) = some (ans_BadAsk p.1)
  k_BadCourse : ∀ p ∈ et0, ∀ A, clsOf K p.1 = some A → PySem.W.kitOne K (.ref A) (.ref (He.ga K "BadCourse")) = some (ans_BadCourse p.1)
  k_BadDeed : ∀ p ∈ et0, ∀ A, clsOf K p.1 = some A → PySem.W.kitOne K (.ref A) (.ref (He.ga K "BadDeed")) = some (ans_BadDeed p.1)
  k_BadLook : ∀ p ∈ et0, ∀ A, clsOf K p.1 = some A → PySem.W.kitOne K (.ref A) (.ref (He.ga K "BadLook")) = some (ans_BadLook p.1)
  k_BadLots : ∀ p ∈ et0, ∀ A, clsOf K p.1 = some A → PySem.W.kitOne K (.ref A) (.ref (He.ga K "BadLots")) = some (ans_BadLots p.1)
  k_BadNet : ∀ p ∈ et0, ∀ A, clsOf K p.1 = some A → PySem.W.kitOne K (.ref A) (.ref (He.ga K "BadNet")) = some (ans_BadNet p.1)
  k_BadOutage : ∀ p ∈ et0, ∀ A, clsOf K p.1 = some A → PySem.W.kitOne K (.ref A) (.ref (He.ga K "BadOutage")) = some (ans_BadOutage p.1)
  k_BadPlan : ∀ p ∈ et0, ∀ A, clsOf K p.1 = some A → PySem.W.kitOne K (.ref A) (.ref (He.ga K "BadPlan")) = some (ans_BadPlan p.1)
  k_BadStanding : ∀ p ∈ et0, ∀ A, clsOf K p.1 = some A → PySem.W.kitOne K (.ref A) (.ref (He.ga K "BadStanding")) = some (ans_BadStanding p.1)
  k_BadTask : ∀ p ∈ et0, ∀ A, clsOf K p.1 = some A → PySem.W.kitOne K (.ref A) (.ref (He.ga K "BadTask")) = some (ans_BadTask p.1)
  k_BadText : ∀ p ∈ et0, ∀ A, clsOf K p.1 = some A → PySem.W.kitOne K (.ref A) (.ref (He.ga K "BadText")) = some (ans_BadText p.1)
  k_BadWant : ∀ p ∈ et0, ∀ A, clsOf K p.1 = some A → PySem.W.kitOne K (.ref A) (.ref (He.ga K "BadWant")) = some (ans_BadWant p.1)
  k_TooMany : ∀ p ∈ et0, ∀ A, clsOf K p.1 = some A → PySem.W.kitOne K (.ref A) (.ref (He.ga K "TooMany")) = some (ans_TooMany p.1)
  k_Unsafe : ∀ p ∈ et0, ∀ A, clsOf K p.1 = some A → PySem.W.kitOne K (.ref A) (.ref (He.ga K "Unsafe")) = some (ans_Unsafe p.1)
  k_WorksError : ∀ p ∈ et0, ∀ A, clsOf K p.1 = some A → PySem.W.kitOne K (.ref A) (.ref (He.ga K "WorksError")) = some (ans_WorksError p.1)
  x_WorksError : ∀ nm A b, clsOf K nm = some A → tbl_WorksError nm = some b → PySem.W.exmOne K (.ref A) (.ref (He.ga K "WorksError")) = some b
section
variable {P : Program} {w : World} {K : PySem.W.Frag} {mg : Str → Option Value} {base : Heap}
abbrev cnOf (K : PySem.W.Frag) : Cn := ⟨⟨K, clsOf K⟩, [], none⟩

abbrev s_line_words : Stmt := topS 18
theorem sc_line_words : FnScope ["line", "words", "word", "sign"] ["line"] (defScope s_line_words) := ⟨rfl, rfl, rfl, by decide +kernel, rfl, by decide +kernel, by decide +kernel⟩
def g_line_words : M Flw :=
    (seqM (asgM (evM1 (mvv 0) (.tmp (pure (.str (PySem.Str.ofString " ")))) oSplit) (stv 1))
    (seqM (forB 1 (stv 2)
    (seqM (ifM (asB (ev2 (.slot 2) (.tmp (pure (.str (PySem.Str.ofString "")))) oEq))
    (retM (pure .non))
    (pure .nx))
    (forS (mvv 2) (stv 3)
    (ifM (asB (ev2 (.slot 3) (.tmp (pure (.str v_SIGNS))) (oInS true)))
    (retM (pure .non))
    (pure .nx)))))
    (retM (mvv 1))))
def m_line_words : List D → FRes := defF 4 [false] g_line_words
theorem ok_line_words (T : Txt P K mg) : DefAt P w K mg base 1 "line_words" ["line"] (spF (cnOf K) [false] m_line_words) := by
  refine def_mk (k := 0) T.l_line_words sc_line_words rfl fun f cdv A outer s H E hr => ?_
  have tk : L2N.Takes (cxOf (L2N.CX P w) P w K mg base ["line", "words", "word", "sign"] "line_words" (defScope s_line_words) f cdv A outer s H E) (fun cls d _ H => E cls d H) := L2N.takes_of rfl rfl rfl rfl
  exact ⟨_, _, (pss_cons (ps_set (i := 1) sc_line_words.nd rfl (by first | exact .inl rfl | exact .inr rfl) (pe_split (pv 0) pe_str))
      (pss_cons (ps_for (passes_of rfl) rfl (pi_list (pv 1)) (pg_name (i := 2) sc_line_words.nd rfl (by first | exact .inl rfl | exact .inr rfl))
      (pss_cons (ps_if (pt_cmpR (op_eqD hr.units) (pv 2) pe_str (nomark _))
      (pss_one (ps_ret pe_non))
      pss_nil)
      (pss_one (ps_for (passes_of rfl) rfl (pi_str (pv 2)) (pg_name (i := 3) sc_line_words.nd rfl (by first | exact .inl rfl | exact .inr rfl))
      (pss_one (ps_if (pt_cmpR op_notin_str (pv 3) (pe_glob (v := .str v_SIGNS) rfl T.c_SIGNS.choose_spec ⟨_, rfl⟩) (by rfl))
      (pss_one (ps_ret pe_non))
      pss_nil))))))
      (pss_one (ps_ret (pv 1))))),
      (SOk.seq (SOk.asg (TOk.m1 (TOk.mv (i := 0)) (opT TOk.cS) g_split) (GOk.name (i := 1)))
      (SOk.seq (SOk.forB  (GOk.name (i := 2))
      (SOk.seq (SOk.ifS (TtOk.test (TOk.op2 (opS 2) (opT TOk.cS) g_eq))
      (SOk.ret TOk.cN)
      SOk.next)
      (SOk.forS (TOk.mv (i := 2)) (GOk.name (i := 3))
      (SOk.ifS (TtOk.test (TOk.op2 (opS 3) (opT TOk.cS) g_notInS))
      (SOk.ret TOk.cN)
      SOk.next))) (by decide))
      (SOk.ret (TOk.mv (i := 1))))), by decide⟩
abbrev s_split_text : Stmt := topS 19
theorem sc_split_text : FnScope ["text", "pieces", "rows", "line", "words"] ["text"] (defScope s_split_text) := ⟨rfl, rfl, rfl, by decide +kernel, rfl, by decide +kernel, by decide +kernel⟩
def g_split_text : M Flw :=
    (seqM (asgM (evM1 (mvv 0) (.tmp (pure (.str (PySem.Str.ofString "\n")))) oSplit) (stv 1))
    (seqM (asgM (lstM (pure [])) (stv 2))
    (seqM (forL (evS (.slot 1) none (some (ev1 (.tmp (pure (.int 1))) oNeg)) oSl) (stv 3)
    (seqM (asgM (callM m_line_words [.tmp (mvv 3)]) (stv 4))
    (seqM (ifM (asB (ev2 (.slot 4) (.tmp (pure .non)) oIs))
    (retM (tupM (consM (mvv 2) (consM (pure (.bl true)) (pure [])))))
    (pure .nx))
    (dropM (appM 2 (mvv 4))))))
    (retM (tupM (consM (mvv 2) (consM (ev2 (.tmp (ev2 (.slot 1) (.tmp (ev1 (.tmp (pure (.int 1))) oNeg)) oIx)) (.tmp (pure (.str (PySem.Str.ofString "")))) oNe) (pure []))))))))
def m_split_text : List D → FRes := defF 5 [false] g_split_text
theorem ok_split_text (T : Txt P K mg) : DefAt P w K mg base 2 "split_text" ["text"] (spF (cnOf K) [false] m_split_text) := by
  have G_line_words := ok_line_words (base := base) (P := P) (w := w) T
  refine def_mk (k := 1) T.l_split_text sc_split_text rfl fun f cdv A outer s H E hr => ?_
  have tk : L2N.Takes (cxOf (L2N.CX P w) P w K mg base ["text", "pieces", "rows", "line", "words"] "split_text" (defScope s_split_text) f cdv A outer s H E) (fun cls d _ H => E cls d H) := L2N.takes_of rfl rfl rfl rfl
  exact ⟨_, _, (pss_cons (ps_set (i := 1) sc_split_text.nd rfl (by first | exact .inl rfl | exact .inr rfl) (pe_split (pv 0) pe_str))
      (pss_cons (ps_set (i := 2) sc_split_text.nd rfl (by first | exact .inl rfl | exact .inr rfl) (pe_lst pa_nil))
      (pss_cons (ps_for (passes_of rfl) rfl (pi_list (pe_slice sl_any (pv 1) po_none (po_some (pe_un un_neg pe_int)))) (pg_name (i := 3) sc_split_text.nd rfl (by first | exact .inl rfl | exact .inr rfl))
      (pss_cons (ps_set (i := 4) sc_split_text.nd rfl (by first | exact .inl rfl | exact .inr rfl) (pe_cd G_line_words hr (fun σ => L2N.passAt tk σ) (pa_cons (pv 3) pa_nil)))
      (pss_cons (ps_if (pt_cmpR op_isN (pv 4) pe_non (nomark _))
      (pss_one (ps_ret (pe_tup (pa_cons (pv 2) (pa_cons pe_bl pa_nil)))))
      pss_nil)
      (pss_one (ps_expr (pe_bm PySem.F.plainAttrs_list PySem.F.slot_list_append PySem.F.type_list_append mt_append (pv 2) (pa_cons (pv 4) pa_nil)))))))
      (pss_one (ps_ret (pe_tup (pa_cons (pv 2) (pa_cons (pe_cmpR (op_neD hr.units) (pe_ix ix_seq (pv 1) (pe_un un_neg pe_int) (fun _ _ => rfl)) pe_str (nomark _)) pa_nil)))))))),
      (SOk.seq (SOk.asg (TOk.m1 (TOk.mv (i := 0)) (opT TOk.cS) g_split) (GOk.name (i := 1)))
      (SOk.seq (SOk.asg (TOk.lst TaOk.nil) (GOk.name (i := 2)))
      (SOk.seq (SOk.forL (TOk.slice (opS 1) rfl ⟨_, rfl, (TOk.un (opT TOk.cI) g_neg)⟩ g_sl) (GOk.name (i := 3))
      (SOk.seq (SOk.asg (TOk.call (AgOk.cons (opT (TOk.mv (i := 3))) AgOk.nil)) (GOk.name (i := 4)))
      (SOk.seq (SOk.ifS (TtOk.test (TOk.op2 (opS 4) (opT TOk.cN) g_is))
      (SOk.ret (TOk.tup (TaOk.cons (TOk.mv (i := 2)) (TaOk.cons TOk.cB TaOk.nil))))
      SOk.next)
      (SOk.drop (TOk.append (TOk.mv (i := 4)))))))
      (SOk.ret (TOk.tup (TaOk.cons (TOk.mv (i := 2)) (TaOk.cons (TOk.op2 (opT (TOk.op2 (opS 1) (opT (TOk.un (opT TOk.cI) g_neg)) g_ix)) (opT TOk.cS) g_ne) TaOk.nil))))))), by decide⟩
abbrev s_scan_text : Stmt := topS 20
theorem sc_scan_text : FnScope ["text", "rows", "wrong"] ["text"] (defScope s_scan_text) := ⟨rfl, rfl, rfl, by decide +kernel, rfl, by decide +kernel, by decide +kernel⟩
def g_scan_text : M Flw :=
    (seqM (asgM (callM m_split_text [.tmp (mvv 0)]) (fun d => match d with | .tup ds => (if ds.length = 2 then (fun ds => match ds with | d :: r => (do (stv 1) d; (fun ds => match ds with | d :: r => (do (stv 2) d; (fun ds => match ds with | [] => pure () | _ => badM) r) | [] => badM) r) | [] => badM) ds else badM) | _ => badM))
    (seqM (ifM (orT (evT (.slot 2)) (asB (ev2 (.slot 1) (.tmp (lstM (pure []))) oEq)))
    (raiseErr "BadText" ["line"] (PySem.Str.ofString "bad text") false (consM (ev2 (.tmp (ev1 (.slot 1) oLen)) (.tmp (pure (.int 1))) oPlus) (pure [])))
    (pure .nx))
    (retM (mvv 1))))
def m_scan_text : List D → FRes := defF 3 [false] g_scan_text
theorem ok_scan_text (T : Txt P K mg) : DefAt P w K mg base 3 "scan_text" ["text"] (spF (cnOf K) [false] m_scan_text) := by
  have G_split_text := ok_split_text (base := base) (P := P) (w := w) T
  refine def_mk (k := 2) T.l_scan_text sc_scan_text rfl fun f cdv A outer s H E hr => ?_
  have tk : L2N.Takes (cxOf (L2N.CX P w) P w K mg base ["text", "rows", "wrong"] "scan_text" (defScope s_scan_text) f cdv A outer s H E) (fun cls d _ H => E cls d H) := L2N.takes_of rfl rfl rfl rfl
  exact ⟨_, _, (pss_cons (ps_asg (pe_cd G_split_text hr (fun σ => L2N.passAt tk σ) (pa_cons (pv 0) pa_nil)) (pg_tup rfl (pgs_cons (pg_name (i := 1) sc_scan_text.nd rfl (by first | exact .inl rfl | exact .inr rfl)) (pgs_cons (pg_name (i := 2) sc_scan_text.nd rfl (by first | exact .inl rfl | exact .inr rfl)) pgs_nil))))
      (pss_cons (ps_if (PW.pt (pw_or (pt_truth (pv 2) (by intro _; rfl)) (pw_or1 (pt_cmpR (op_eqD hr.units) (pv 1) (pe_lst pa_nil) (nomark _)))))
      (pss_one (L2N.ps_raise rfl tk (pmk_err T.e_BadText hr (pa_cons (pe_op op_plus (pe_callB call_len (by rfl) T.n_len PySem.boot_len (pa_cons (pv 1) pa_nil)) pe_int) pa_nil))))
      pss_nil)
      (pss_one (ps_ret (pv 1))))),
      (SOk.seq (SOk.asg (TOk.call (AgOk.cons (opT (TOk.mv (i := 0))) AgOk.nil)) (GOk.tup (n := 2) (GsOk.cons (GOk.name (i := 1)) (GsOk.cons (GOk.name (i := 2)) GsOk.nil))))
      (SOk.seq (SOk.ifS (TtOk.or (TtOk.truth (opS 2)) (TtOk.test (TOk.op2 (opS 1) (opT (TOk.lst TaOk.nil)) g_eq)))
      (SOk.raise (nm := "BadText") (msg := (PySem.Str.ofString "bad text")) (cat := false) (fs := ["line"]) (TaOk.cons (TOk.op2 (opT (TOk.cb1 (opS 1) g_len)) (opT TOk.cI) g_plus) TaOk.nil) (cls_BadText K))
      SOk.next)
      (SOk.ret (TOk.mv (i := 1))))), by decide⟩
abbrev s__law_source : Stmt := topS 22
theorem sc__law_source : FnScope ["script", "at", "fold", "cell", "own", "great", "left"] ["script", "at"] (defScope s__law_source) := ⟨rfl, rfl, rfl, by decide +kernel, rfl, by decide +kernel, by decide +kernel⟩
def g__law_source : M Flw :=
    (seqM (asgM (pure (.int 0)) (stv 2))
    (seqM (forL (evS (.slot 0) none (some (pure (.int 63))) oSl) (stv 3)
    (asgM (ev2 (.tmp (ev2 (.tmp (ev2 (.tmp (ev2 (.slot 2) (.tmp (pure (.int 1000003))) oMul)) (.tmp (ev1 (.slot 3) oInt)) oPlus)) (.tmp (pure (.int 12289))) oPlus)) (.tmp (pure (.int 2305843009213693951))) oMod) (stv 2)))
    (seqM (asgM (ifV (asB (ev2 (.slot 1) (.tmp (ev1 (.slot 0) oLen)) oLt)) (ev1 (.tmp (ev2 (.slot 0) (.slot 1) oIx)) oInt) (pure (.int 0))) (stv 4))
    (seqM (asgM (ev2 (.tmp (pure (.int 10))) (.tmp (pure (.int 64))) oPow) (stv 5))
    (seqM (asgM (ev2 (.slot 4) (.tmp (ev2 (.tmp (ev2 (.tmp (ev2 (.tmp (ev2 (.slot 5) (.tmp (rdv 5)) oMul)) (.slot 5) oMul)) (.slot 5) oMul)) (.slot 5) oMul)) oMod) (stv 4))
    (seqM (asgM (ifV (asB (ev2 (.slot 4) (.tmp (ev2 (.tmp (pure (.int 10))) (.tmp (pure (.int 18))) oPow)) oGe)) (rdv 4) (pure (.int 0))) (stv 6))
    (retM (lstM (consM (mvv 6) (consM (ev2 (.tmp (ev2 (.tmp (ev2 (.slot 2) (.tmp (ev2 (.tmp (pure (.int 911))) (.slot 1) oMul)) oPlus)) (.tmp (pure (.int 7))) oPlus)) (.tmp (pure (.int 2147483647))) oMod) (consM (ev2 (.tmp (ev2 (.tmp (ev2 (.tmp (ev2 (.slot 2) (.tmp (pure (.int 2147483647))) oDiv)) (.tmp (ev2 (.tmp (pure (.int 5077))) (.slot 1) oMul)) oPlus)) (.tmp (pure (.int 3))) oPlus)) (.tmp (pure (.int 2147483629))) oMod) (consM (pure (.int 0)) (pure [])))))))))))))
def m__law_source : List D → FRes := defF 7 [false, false] g__law_source
theorem ok__law_source (T : Txt P K mg) : DefAt P w K mg base 1 "_law_source" ["script", "at"] (spF (cnOf K) [false, false] m__law_source) := by
  refine def_mk (k := 0) T.l__law_source sc__law_source rfl fun f cdv A outer s H E hr => ?_
  have tk : L2N.Takes (cxOf (L2N.CX P w) P w K mg base ["script", "at", "fold", "cell", "own", "great", "left"] "_law_source" (defScope s__law_source) f cdv A outer s H E) (fun cls d _ H => E cls d H) := L2N.takes_of rfl rfl rfl rfl
  exact ⟨_, _, (pss_cons (ps_set (i := 2) sc__law_source.nd rfl (by first | exact .inl rfl | exact .inr rfl) pe_int)
      (pss_cons (ps_for (passes_of rfl) rfl (pi_list (pe_slice sl_any (pv 0) po_none (po_some pe_int))) (pg_name (i := 3) sc__law_source.nd rfl (by first | exact .inl rfl | exact .inr rfl))
      (pss_one (ps_set (i := 2) sc__law_source.nd rfl (by first | exact .inl rfl | exact .inr rfl) (pe_op op_mod (pe_op op_plus (pe_op op_plus (pe_op op_mulA (pv 2) pe_int) (pe_callTy call_intA (by rfl) T.n_int (by decide +kernel) (pa_cons (pv 3) pa_nil))) pe_int) pe_int))))
      (pss_cons (ps_set (i := 4) sc__law_source.nd rfl (by first | exact .inl rfl | exact .inr rfl) (pe_ifExp (pt_cmpR op_lt (pv 1) (pe_callB call_len (by rfl) T.n_len PySem.boot_len (pa_cons (pv 0) pa_nil)) (nomark _)) (pe_callTy call_intA (by rfl) T.n_int (by decide +kernel) (pa_cons (pe_ix ix_seq (pv 0) (pv 1) (fun _ _ => rfl)) pa_nil)) pe_int))
      (pss_cons (ps_set (i := 5) sc__law_source.nd rfl (by first | exact .inl rfl | exact .inr rfl) (pe_op op_pow pe_int pe_int))
      (pss_cons (ps_set (i := 4) sc__law_source.nd rfl (by first | exact .inl rfl | exact .inr rfl) (pe_op op_mod (pv 4) (pe_op op_mulA (pe_op op_mulA (pe_op op_mulA (pe_op op_mulA (pv 5) (pv 5)) (pv 5)) (pv 5)) (pv 5))))
      (pss_cons (ps_set (i := 6) sc__law_source.nd rfl (by first | exact .inl rfl | exact .inr rfl) (pe_ifExp (pt_cmpR op_ge (pv 4) (pe_op op_pow pe_int pe_int) (nomark _)) (pv 4) pe_int))
      (pss_one (ps_ret (pe_lst (pa_cons (pv 6) (pa_cons (pe_op op_mod (pe_op op_plus (pe_op op_plus (pv 2) (pe_op op_mulA pe_int (pv 1))) pe_int) pe_int) (pa_cons (pe_op op_mod (pe_op op_plus (pe_op op_plus (pe_op op_fdivW (pv 2) pe_int) (pe_op op_mulA pe_int (pv 1))) pe_int) pe_int) (pa_cons pe_int pa_nil))))))))))))),
      (SOk.seq (SOk.asg TOk.cI (GOk.name (i := 2)))
      (SOk.seq (SOk.forL (TOk.slice (opS 0) rfl ⟨_, rfl, TOk.cI⟩ g_sl) (GOk.name (i := 3))
      (SOk.asg (TOk.op2 (opT (TOk.op2 (opT (TOk.op2 (opT (TOk.op2 (opS 2) (opT TOk.cI) g_mul)) (opT (TOk.cb1 (opS 3) g_int)) g_plus)) (opT TOk.cI) g_plus)) (opT TOk.cI) g_mod) (GOk.name (i := 2))))
      (SOk.seq (SOk.asg (TOk.ifV (TtOk.test (TOk.op2 (opS 1) (opT (TOk.cb1 (opS 0) g_len)) g_lt)) (TOk.cb1 (opT (TOk.op2 (opS 0) (opS 1) g_ix)) g_int) TOk.cI) (GOk.name (i := 4)))
      (SOk.seq (SOk.asg (TOk.op2 (opT TOk.cI) (opT TOk.cI) g_pow) (GOk.name (i := 5)))
      (SOk.seq (SOk.asg (TOk.op2 (opS 4) (opT (TOk.op2 (opT (TOk.op2 (opT (TOk.op2 (opT (TOk.op2 (opS 5) (opT (TOk.rd (i := 5))) g_mul)) (opS 5) g_mul)) (opS 5) g_mul)) (opS 5) g_mul)) g_mod) (GOk.name (i := 4)))
      (SOk.seq (SOk.asg (TOk.ifV (TtOk.test (TOk.op2 (opS 4) (opT (TOk.op2 (opT TOk.cI) (opT TOk.cI) g_pow)) g_ge)) (TOk.rd (i := 4)) TOk.cI) (GOk.name (i := 6)))
      (SOk.ret (TOk.lst (TaOk.cons (TOk.mv (i := 6)) (TaOk.cons (TOk.op2 (opT (TOk.op2 (opT (TOk.op2 (opS 2) (opT (TOk.op2 (opT TOk.cI) (opS 1) g_mul)) g_plus)) (opT TOk.cI) g_plus)) (opT TOk.cI) g_mod) (TaOk.cons (TOk.op2 (opT (TOk.op2 (opT (TOk.op2 (opT (TOk.op2 (opS 2) (opT TOk.cI) g_div)) (opT (TOk.op2 (opT TOk.cI) (opS 1) g_mul)) g_plus)) (opT TOk.cI) g_plus)) (opT TOk.cI) g_mod) (TaOk.cons TOk.cI TaOk.nil)))))))))))), by decide⟩
abbrev s__law_pick : Stmt := topS 23
theorem sc__law_pick : FnScope ["s", "many", "told"] ["s", "many"] (defScope s__law_pick) := ⟨rfl, rfl, rfl, by decide +kernel, rfl, by decide +kernel, by decide +kernel⟩
def g__law_pick : M Flw :=
    (seqM (ifM (asB (ev2 (.slot 1) (.tmp (pure (.int 1))) oLe))
    (retM (pure (.int 0)))
    (pure .nx))
    (seqM (ifM (asB (ev2 (.tmp (ev2 (.slot 0) (.tmp (pure (.int 0))) oIx)) (.tmp (pure (.int 0))) oGt))
    (seqM (asgM (ev2 (.tmp (ev1 (.tmp (ev2 (.slot 0) (.tmp (pure (.int 0))) oIx)) oInt)) (.slot 1) oMod) (stv 2))
    (seqM (setIx 0 (ev2 (.tmp (ev2 (.slot 0) (.tmp (pure (.int 0))) oIx)) (.slot 1) oDiv) (pure (.int 0)))
    (retM (mvv 2))))
    (pure .nx))
    (seqM (setIx 0 (ev2 (.tmp (ev2 (.slot 0) (.tmp (pure (.int 3))) oIx)) (.tmp (pure (.int 1))) oPlus) (pure (.int 3)))
    (seqM (setIx 0 (ev2 (.tmp (ev2 (.tmp (ev2 (.tmp (ev2 (.tmp (ev2 (.slot 0) (.tmp (pure (.int 1))) oIx)) (.tmp (pure (.int 48271))) oMul)) (.tmp (ev2 (.tmp (ev2 (.slot 0) (.tmp (pure (.int 3))) oIx)) (.tmp (pure (.int 69621))) oMul)) oPlus)) (.tmp (pure (.int 11))) oPlus)) (.tmp (pure (.int 2147483647))) oMod) (pure (.int 1)))
    (seqM (setIx 0 (ev2 (.tmp (ev2 (.tmp (ev2 (.tmp (ev2 (.tmp (ev2 (.slot 0) (.tmp (pure (.int 2))) oIx)) (.tmp (pure (.int 69621))) oMul)) (.tmp (ev2 (.tmp (ev2 (.slot 0) (.tmp (pure (.int 1))) oIx)) (.tmp (pure (.int 7))) oMul)) oPlus)) (.tmp (ev2 (.slot 0) (.tmp (pure (.int 3))) oIx)) oPlus)) (.tmp (pure (.int 2147483629))) oMod) (pure (.int 2)))
    (retM (ev2 (.tmp (ev2 (.tmp (ev2 (.tmp (ev2 (.slot 0) (.tmp (pure (.int 1))) oIx)) (.tmp (pure (.int 5))) oDiv)) (.tmp (ev2 (.tmp (ev2 (.slot 0) (.tmp (pure (.int 2))) oIx)) (.tmp (pure (.int 3))) oDiv)) oPlus)) (.slot 1) oMod)))))))
def m__law_pick : List D → FRes := defF 3 [true, false] g__law_pick
theorem ok__law_pick (T : Txt P K mg) : DefAt P w K mg base 1 "_law_pick" ["s", "many"] (spF (cnOf K) [true, false] m__law_pick) := by
  refine def_mk (k := 0) T.l__law_pick sc__law_pick rfl fun f cdv A outer s H E hr => ?_
  have tk : L2N.Takes (cxOf (L2N.CX P w) P w K mg base ["s", "many", "told"] "_law_pick" (defScope s__law_pick) f cdv A outer s H E) (fun cls d _ H => E cls d H) := L2N.takes_of rfl rfl rfl rfl
  exact ⟨_, _, (pss_cons (ps_if (pt_cmpR op_le (pv 1) pe_int (nomark _))
      (pss_one (ps_ret pe_int))
      pss_nil)
      (pss_cons (ps_if (pt_cmpR op_gt (pe_ix ix_seq (pv 0) pe_int (fun _ _ => rfl)) pe_int (nomark _))
      (pss_cons (ps_set (i := 2) sc__law_pick.nd rfl (by first | exact .inl rfl | exact .inr rfl) (pe_op op_mod (pe_callTy call_intA (by rfl) T.n_int (by decide +kernel) (pa_cons (pe_ix ix_seq (pv 0) pe_int (fun _ _ => rfl)) pa_nil)) (pv 1)))
      (pss_cons (ps_asg (pe_op op_fdivW (pe_ix ix_seq (pv 0) pe_int (fun _ _ => rfl)) (pv 1)) (pg_sub (pv 0) pe_int set_list))
      (pss_one (ps_ret (pv 2)))))
      pss_nil)
      (pss_cons (ps_asg (pe_op op_plus (pe_ix ix_seq (pv 0) pe_int (fun _ _ => rfl)) pe_int) (pg_sub (pv 0) pe_int set_list))
      (pss_cons (ps_asg (pe_op op_mod (pe_op op_plus (pe_op op_plus (pe_op op_mulA (pe_ix ix_seq (pv 0) pe_int (fun _ _ => rfl)) pe_int) (pe_op op_mulA (pe_ix ix_seq (pv 0) pe_int (fun _ _ => rfl)) pe_int)) pe_int) pe_int) (pg_sub (pv 0) pe_int set_list))
      (pss_cons (ps_asg (pe_op op_mod (pe_op op_plus (pe_op op_plus (pe_op op_mulA (pe_ix ix_seq (pv 0) pe_int (fun _ _ => rfl)) pe_int) (pe_op op_mulA (pe_ix ix_seq (pv 0) pe_int (fun _ _ => rfl)) pe_int)) (pe_ix ix_seq (pv 0) pe_int (fun _ _ => rfl))) pe_int) (pg_sub (pv 0) pe_int set_list))
      (pss_one (ps_ret (pe_op op_mod (pe_op op_plus (pe_op op_fdivW (pe_ix ix_seq (pv 0) pe_int (fun _ _ => rfl)) pe_int) (pe_op op_fdivW (pe_ix ix_seq (pv 0) pe_int (fun _ _ => rfl)) pe_int)) (pv 1))))))))),
      (SOk.seq (SOk.ifS (TtOk.test (TOk.op2 (opS 1) (opT TOk.cI) g_le))
      (SOk.ret TOk.cI)
      SOk.next)
      (SOk.seq (SOk.ifS (TtOk.test (TOk.op2 (opT (TOk.op2 (opS 0) (opT TOk.cI) g_ix)) (opT TOk.cI) g_gt))
      (SOk.seq (SOk.asg (TOk.op2 (opT (TOk.cb1 (opT (TOk.op2 (opS 0) (opT TOk.cI) g_ix)) g_int)) (opS 1) g_mod) (GOk.name (i := 2)))
      (SOk.seq (SOk.setIx (TOk.op2 (opT (TOk.op2 (opS 0) (opT TOk.cI) g_ix)) (opS 1) g_div) TOk.cI)
      (SOk.ret (TOk.mv (i := 2)))))
      SOk.next)
      (SOk.seq (SOk.setIx (TOk.op2 (opT (TOk.op2 (opS 0) (opT TOk.cI) g_ix)) (opT TOk.cI) g_plus) TOk.cI)
      (SOk.seq (SOk.setIx (TOk.op2 (opT (TOk.op2 (opT (TOk.op2 (opT (TOk.op2 (opT (TOk.op2 (opS 0) (opT TOk.cI) g_ix)) (opT TOk.cI) g_mul)) (opT (TOk.op2 (opT (TOk.op2 (opS 0) (opT TOk.cI) g_ix)) (opT TOk.cI) g_mul)) g_plus)) (opT TOk.cI) g_plus)) (opT TOk.cI) g_mod) TOk.cI)
      (SOk.seq (SOk.setIx (TOk.op2 (opT (TOk.op2 (opT (TOk.op2 (opT (TOk.op2 (opT (TOk.op2 (opS 0) (opT TOk.cI) g_ix)) (opT TOk.cI) g_mul)) (opT (TOk.op2 (opT (TOk.op2 (opS 0) (opT TOk.cI) g_ix)) (opT TOk.cI) g_mul)) g_plus)) (opT (TOk.op2 (opS 0) (opT TOk.cI) g_ix)) g_plus)) (opT TOk.cI) g_mod) TOk.cI)
      (SOk.ret (TOk.op2 (opT (TOk.op2 (opT (TOk.op2 (opT (TOk.op2 (opS 0) (opT TOk.cI) g_ix)) (opT TOk.cI) g_div)) (opT (TOk.op2 (opT (TOk.op2 (opS 0) (opT TOk.cI) g_ix)) (opT TOk.cI) g_div)) g_plus)) (opS 1) g_mod))))))), by decide⟩
abbrev s__law_same : Stmt := topS 24
theorem sc__law_same : FnScope ["answer", "due", "key", "k"] ["answer", "due"] (defScope s__law_same) := ⟨rfl, rfl, rfl, by decide +kernel, rfl, by decide +kernel, by decide +kernel⟩
def b__law_same (m_rec : List D → FRes) : M Flw :=
    (seqM (ifM (asB (ev2 (.slot 1) (.tmp (pure .non)) oIs))
    (retM (ev2 (.slot 0) (.tmp (pure .non)) oIs))
    (pure .nx))
    (seqM (ifM (evT (.tmp (ev1 (.slot 1) (oIsi "str"))))
    (retM (andV (ev1 (.slot 0) (oIsi "str")) (ev2 (.slot 0) (.slot 1) oEq)))
    (pure .nx))
    (seqM (ifM (evT (.tmp (ev1 (.slot 1) (oIsi "int"))))
    (retM (andV (ev1 (.slot 0) (oIsi "int")) (andV (ev2 (.tmp (ev1 (.slot 0) (oIsi "bool"))) (.tmp (ev1 (.slot 1) (oIsi "bool"))) oEq) (ev2 (.slot 0) (.slot 1) oEq))))
    (pure .nx))
    (seqM (ifM (evT (.tmp (ev1 (.slot 1) (oIsi "dict"))))
    (seqM badM
    badM)
    (pure .nx))
    (seqM (ifM (orT (asB (ev2 (.tmp (ev1 (.slot 1) (oIsi "tuple"))) (.tmp (ev1 (.slot 0) (oIsi "tuple"))) oNe)) (asB (ev2 (.tmp (ev1 (.slot 1) (oIsi "list"))) (.tmp (ev1 (.slot 0) (oIsi "list"))) oNe)))
    (retM (pure (.bl false)))
    (pure .nx))
    (retM (andV (ev2 (.tmp (ev1 (.slot 0) oLen)) (.tmp (ev1 (.slot 1) oLen)) oEq) (ev1 (.tmp (lcR1 [3] (consM (ev1 (.slot 1) oLen) (pure [])) (stv 3) (pure true) (callE2 m_rec 0 3 1 3))) oAll))))))))
def m__law_same : Nat → List D → FRes
  | 0 => fun _ => .bad
  | n + 1 => defF 4 [true, true] (b__law_same (m__law_same n))
theorem ok__law_same (T : Txt P K mg) : ∀ n, DefAt P w K mg base (1 + n) "_law_same" ["answer", "due"] (spF (cnOf K) [true, true] (m__law_same n))
  | 0 => def_bad T.l__law_same rfl
  | n + 1 => by
    have G__law_same := ok__law_same T n
    refine def_mk (k := 1 + n) T.l__law_same sc__law_same rfl fun f cdv A outer s H E hr => ?_
    have tk : L2N.Takes (cxOf (L2N.CX P w) P w K mg base ["answer", "due", "key", "k"] "_law_same" (defScope s__law_same) f cdv A outer s H E) (fun cls d _ H => E cls d H) := L2N.takes_of rfl rfl rfl rfl
    exact ⟨_, _, (pss_cons (ps_if (pt_cmpR op_isN (pv 1) pe_non (nomark _))
      (pss_one (ps_ret (pe_cmpR op_isN (pv 0) pe_non (nomark _))))
      pss_nil)
      (pss_cons (ps_if (pt_truth (pe_callB call_isi (by rfl) T.n_isinstance (by decide +kernel) (pa_cons (pv 1) (pa_cons (pe_bltn (v := .ty "str") (by rfl) T.n_str (by decide +kernel) rfl) pa_nil))) (by intro _; rfl))
      (pss_one (ps_ret (pe_and (pe_callB call_isi (by rfl) T.n_isinstance (by decide +kernel) (pa_cons (pv 0) (pa_cons (pe_bltn (v := .ty "str") (by rfl) T.n_str (by decide +kernel) rfl) pa_nil))) (pe_one (pe_cmpR (op_eqD hr.units) (pv 0) (pv 1) (nomark _))))))
      pss_nil)
      (pss_cons (ps_if (pt_truth (pe_callB call_isi (by rfl) T.n_isinstance (by decide +kernel) (pa_cons (pv 1) (pa_cons (pe_bltn (v := .ty "int") (by rfl) T.n_int (by decide +kernel) rfl) pa_nil))) (by intro _; rfl))
      (pss_one (ps_ret (pe_and (pe_callB call_isi (by rfl) T.n_isinstance (by decide +kernel) (pa_cons (pv 0) (pa_cons (pe_bltn (v := .ty "int") (by rfl) T.n_int (by decide +kernel) rfl) pa_nil))) (pe_and (pe_cmpR (op_eqD hr.units) (pe_callB call_isi (by rfl) T.n_isinstance (by decide +kernel) (pa_cons (pv 0) (pa_cons (pe_bltn (v := .ty "bool") (by rfl) T.n_bool (by decide +kernel) rfl) pa_nil))) (pe_callB call_isi (by rfl) T.n_isinstance (by decide +kernel) (pa_cons (pv 1) (pa_cons (pe_bltn (v := .ty "bool") (by rfl) T.n_bool (by decide +kernel) rfl) pa_nil))) (nomark _)) (pe_one (pe_cmpR (op_eqD hr.units) (pv 0) (pv 1) (nomark _)))))))
      pss_nil)
      (pss_cons (ps_if (pt_truth (pe_callB call_isi (by rfl) T.n_isinstance (by decide +kernel) (pa_cons (pv 1) (pa_cons (pe_bltn (v := .ty "dict") (by rfl) T.n_dict (by decide +kernel) rfl) pa_nil))) (by intro _; rfl))
      (pss_cons ps_dead
      (pss_one ps_dead))
      pss_nil)
      (pss_cons (ps_if (PW.pt (pw_or (pt_cmpR (op_neD hr.units) (pe_callB call_isi (by rfl) T.n_isinstance (by decide +kernel) (pa_cons (pv 1) (pa_cons (pe_bltn (v := .ty "tuple") (by rfl) T.n_tuple (by decide +kernel) rfl) pa_nil))) (pe_callB call_isi (by rfl) T.n_isinstance (by decide +kernel) (pa_cons (pv 0) (pa_cons (pe_bltn (v := .ty "tuple") (by rfl) T.n_tuple (by decide +kernel) rfl) pa_nil))) (nomark _)) (pw_or1 (pt_cmpR (op_neD hr.units) (pe_callB call_isi (by rfl) T.n_isinstance (by decide +kernel) (pa_cons (pv 1) (pa_cons (pe_bltn (v := .ty "list") (by rfl) T.n_list (by decide +kernel) rfl) pa_nil))) (pe_callB call_isi (by rfl) T.n_isinstance (by decide +kernel) (pa_cons (pv 0) (pa_cons (pe_bltn (v := .ty "list") (by rfl) T.n_list (by decide +kernel) rfl) pa_nil))) (nomark _)))))
      (pss_one (ps_ret pe_bl))
      pss_nil)
      (pss_one (ps_ret (pe_and (pe_cmpR (op_eqD hr.units) (pe_callB call_len (by rfl) T.n_len PySem.boot_len (pa_cons (pv 0) pa_nil)) (pe_callB call_len (by rfl) T.n_len PySem.boot_len (pa_cons (pv 1) pa_nil)) (nomark _)) (pe_one (pe_callB (cr_all rfl) (by rfl) T.n_all (by decide +kernel) (pa_cons (pe_lc (own := [("k", 3)]) rfl sc__law_same.nd (pi_range1 rfl T.n_range (pa_cons (pe_callB call_len (by rfl) T.n_len PySem.boot_len (pa_cons (pv 1) pa_nil)) pa_nil)) (blkOk_by (by kernel_rfl)) (fun _ _ _ _ _ => (pg_name (i := 3) sc__law_same.nd rfl (by first | exact .inl rfl | exact .inr rfl))) (fun _ _ _ _ _ => pts_nil)
      (fun _ _ _ _ _ => (pe_cd (hk := Nat.le_refl _) G__law_same hr (fun σ => passF σ) (pa_cons (pe_ix ix_seq (pv 0) (pv 3) (fun _ _ => rfl)) (pa_cons (pe_ix ix_seq (pv 1) (pv 3) (fun _ _ => rfl)) pa_nil))))) pa_nil))))))))))),
      (SOk.seq (SOk.ifS (TtOk.test (TOk.op2 (opS 1) (opT TOk.cN) g_is))
      (SOk.ret (TOk.op2 (opS 0) (opT TOk.cN) g_is))
      SOk.next)
      (SOk.seq (SOk.ifS (TtOk.truth (opT (TOk.isi (opS 1))))
      (SOk.ret (TOk.andV (TOk.isi (opS 0)) (TOk.op2 (opS 0) (opS 1) g_eq)))
      SOk.next)
      (SOk.seq (SOk.ifS (TtOk.truth (opT (TOk.isi (opS 1))))
      (SOk.ret (TOk.andV (TOk.isi (opS 0)) (TOk.andV (TOk.op2 (opT (TOk.isi (opS 0))) (opT (TOk.isi (opS 1))) g_eq) (TOk.op2 (opS 0) (opS 1) g_eq))))
      SOk.next)
      (SOk.seq (SOk.ifS (TtOk.truth (opT (TOk.isi (opS 1))))
      (SOk.seq SOk.dead
      SOk.dead)
      SOk.next)
      (SOk.seq (SOk.ifS (TtOk.or (TtOk.test (TOk.op2 (opT (TOk.isi (opS 1))) (opT (TOk.isi (opS 0))) g_ne)) (TtOk.test (TOk.op2 (opT (TOk.isi (opS 1))) (opT (TOk.isi (opS 0))) g_ne)))
      (SOk.ret TOk.cB)
      SOk.next)
      (SOk.ret (TOk.andV (TOk.op2 (opT (TOk.cb1 (opS 0) g_len)) (opT (TOk.cb1 (opS 1) g_len)) g_eq) (TOk.cb1 (opT (TOk.lcR1 (vs := [3]) (TaOk.cons (TOk.cb1 (opS 1) g_len) TaOk.nil) (GOk.name (i := 3)) TtOk.yes TOk.callE2)) g_all)))))))), by decide⟩
abbrev s__law_fault : Stmt := topS 25
theorem sc__law_fault : FnScope ["error", "out"] ["error"] (defScope s__law_fault) := ⟨rfl, rfl, rfl, by decide +kernel, rfl, by decide +kernel, by decide +kernel⟩
def g__law_fault (x : Exn) : M Flw :=
    (seqM (asgM (lstM (pure [])) (stv 1))
    (seqM (ifM (evT (.tmp (isxM et0 x 0 ans_TooMany)))
    (dropM (appM 1 (tupM (consM (pure (.str (PySem.Str.ofString "TooMany"))) (consM (fldM et0 x 0 "what") (pure []))))))
    (pure .nx))
    (seqM (ifM (evT (.tmp (isxM et0 x 0 ans_BadNet)))
    (dropM (appM 1 (tupM (consM (pure (.str (PySem.Str.ofString "BadNet"))) (consM (fldM et0 x 0 "what") (consM (fldM et0 x 0 "number") (pure [])))))))
    (pure .nx))
    (seqM (ifM (evT (.tmp (isxM et0 x 0 ans_BadLots)))
    (dropM (appM 1 (tupM (consM (pure (.str (PySem.Str.ofString "BadLots"))) (consM (fldM et0 x 0 "what") (consM (fldM et0 x 0 "row") (pure [])))))))
    (pure .nx))
    (seqM (ifM (evT (.tmp (isxM et0 x 0 ans_BadWant)))
    (dropM (appM 1 (tupM (consM (pure (.str (PySem.Str.ofString "BadWant"))) (consM (fldM et0 x 0 "what") (consM (fldM et0 x 0 "place") (pure [])))))))
    (pure .nx))
    (seqM (ifM (evT (.tmp (isxM et0 x 0 ans_BadOutage)))
    (dropM (appM 1 (tupM (consM (pure (.str (PySem.Str.ofString "BadOutage"))) (consM (fldM et0 x 0 "row") (pure []))))))
    (pure .nx))
    (seqM (ifM (evT (.tmp (isxM et0 x 0 ans_BadStanding)))
    (dropM (appM 1 (tupM (consM (pure (.str (PySem.Str.ofString "BadStanding"))) (consM (fldM et0 x 0 "valve") (pure []))))))
    (pure .nx))
    (seqM (ifM (evT (.tmp (isxM et0 x 0 ans_Unsafe)))
    (dropM (appM 1 (tupM (consM (pure (.str (PySem.Str.ofString "Unsafe"))) (consM (fldM et0 x 0 "word") (pure []))))))
    (pure .nx))
    (seqM (ifM (evT (.tmp (isxM et0 x 0 ans_BadTask)))
    (dropM (appM 1 (tupM (consM (pure (.str (PySem.Str.ofString "BadTask"))) (consM (fldM et0 x 0 "what") (pure []))))))
    (pure .nx))
    (seqM (ifM (evT (.tmp (isxM et0 x 0 ans_BadAsk)))
    (dropM (appM 1 (tupM (consM (pure (.str (PySem.Str.ofString "BadAsk"))) (consM (fldM et0 x 0 "ask") (pure []))))))
    (pure .nx))
    (seqM (ifM (evT (.tmp (isxM et0 x 0 ans_BadPlan)))
    (dropM (appM 1 (tupM (consM (pure (.str (PySem.Str.ofString "BadPlan"))) (consM (fldM et0 x 0 "bell") (pure []))))))
    (pure .nx))
    (seqM (ifM (evT (.tmp (isxM et0 x 0 ans_BadLook)))
    (dropM (appM 1 (tupM (consM (pure (.str (PySem.Str.ofString "BadLook"))) (consM (fldM et0 x 0 "row") (pure []))))))
    (pure .nx))
    (seqM (ifM (evT (.tmp (isxM et0 x 0 ans_BadCourse)))
    (dropM (appM 1 (tupM (consM (pure (.str (PySem.Str.ofString "BadCourse"))) (consM (fldM et0 x 0 "act") (pure []))))))
    (pure .nx))
    (seqM (ifM (evT (.tmp (isxM et0 x 0 ans_BadText)))
    (dropM (appM 1 (tupM (consM (pure (.str (PySem.Str.ofString "BadText"))) (consM (fldM et0 x 0 "line") (pure []))))))
    (pure .nx))
    (seqM (ifM (evT (.tmp (isxM et0 x 0 ans_BadDeed)))
    (dropM (appM 1 (tupM (consM (pure (.str (PySem.Str.ofString "BadDeed"))) (consM (fldM et0 x 0 "what") (pure []))))))
    (pure .nx))
    (retM (ifV (andT (asB (ev2 (.tmp (ev1 (.slot 1) oLen)) (.tmp (pure (.int 1))) oEq)) (evT (.tmp (isxM et0 x 0 ans_WorksError)))) (ev2 (.slot 1) (.tmp (pure (.int 0))) oIx) (tupM (consM (pure (.str (PySem.Str.ofString "several"))) (consM (ev1 (.slot 1) oLen) (pure [])))))))))))))))))))))
def m__law_fault (x : Exn) : List D → FRes := defX 2 [false] (g__law_fault x)
theorem ok__law_fault (T : Txt P K mg) : DefHot P w K mg base (clsOf K) 1 "_law_fault" ["error"] [false] m__law_fault := by
  refine def_mkX (k := 0) T.l__law_fault sc__law_fault rfl fun f cdv A outer s H E a oe cls d kp x hr hz hf hh => ?_
  exact ⟨_, _, (pss_cons (ps_set (i := 1) sc__law_fault.nd rfl (by first | exact .inl rfl | exact .inr rfl) (pe_lst pa_nil))
      (pss_cons (ps_if (pt_truth (pe_callB (call_isX List.mem_cons_self hz hf) (by rfl) T.n_isinstance (by decide +kernel) (pa_cons (pv 0) (pa_cons (pe_glob (v := .ref (He.ga K "TooMany")) (by rfl) T.g_TooMany rfl) pa_nil))) (by intro _; rfl))
      (pss_one (ps_expr (pe_bm PySem.F.plainAttrs_list PySem.F.slot_list_append PySem.F.type_list_append mt_append (pv 1) (pa_cons (pe_tup (pa_cons pe_str (pa_cons (pe_xfA List.mem_cons_self hz hf (pv 0)) pa_nil))) pa_nil))))
      pss_nil)
      (pss_cons (ps_if (pt_truth (pe_callB (call_isX List.mem_cons_self hz hf) (by rfl) T.n_isinstance (by decide +kernel) (pa_cons (pv 0) (pa_cons (pe_glob (v := .ref (He.ga K "BadNet")) (by rfl) T.g_BadNet rfl) pa_nil))) (by intro _; rfl))
      (pss_one (ps_expr (pe_bm PySem.F.plainAttrs_list PySem.F.slot_list_append PySem.F.type_list_append mt_append (pv 1) (pa_cons (pe_tup (pa_cons pe_str (pa_cons (pe_xfA List.mem_cons_self hz hf (pv 0)) (pa_cons (pe_xfA List.mem_cons_self hz hf (pv 0)) pa_nil)))) pa_nil))))
      pss_nil)
      (pss_cons (ps_if (pt_truth (pe_callB (call_isX List.mem_cons_self hz hf) (by rfl) T.n_isinstance (by decide +kernel) (pa_cons (pv 0) (pa_cons (pe_glob (v := .ref (He.ga K "BadLots")) (by rfl) T.g_BadLots rfl) pa_nil))) (by intro _; rfl))
      (pss_one (ps_expr (pe_bm PySem.F.plainAttrs_list PySem.F.slot_list_append PySem.F.type_list_append mt_append (pv 1) (pa_cons (pe_tup (pa_cons pe_str (pa_cons (pe_xfA List.mem_cons_self hz hf (pv 0)) (pa_cons (pe_xfA List.mem_cons_self hz hf (pv 0)) pa_nil)))) pa_nil))))
      pss_nil)
      (pss_cons (ps_if (pt_truth (pe_callB (call_isX List.mem_cons_self hz hf) (by rfl) T.n_isinstance (by decide +kernel) (pa_cons (pv 0) (pa_cons (pe_glob (v := .ref (He.ga K "BadWant")) (by rfl) T.g_BadWant rfl) pa_nil))) (by intro _; rfl))
      (pss_one (ps_expr (pe_bm PySem.F.plainAttrs_list PySem.F.slot_list_append PySem.F.type_list_append mt_append (pv 1) (pa_cons (pe_tup (pa_cons pe_str (pa_cons (pe_xfA List.mem_cons_self hz hf (pv 0)) (pa_cons (pe_xfA List.mem_cons_self hz hf (pv 0)) pa_nil)))) pa_nil))))
      pss_nil)
      (pss_cons (ps_if (pt_truth (pe_callB (call_isX List.mem_cons_self hz hf) (by rfl) T.n_isinstance (by decide +kernel) (pa_cons (pv 0) (pa_cons (pe_glob (v := .ref (He.ga K "BadOutage")) (by rfl) T.g_BadOutage rfl) pa_nil))) (by intro _; rfl))
      (pss_one (ps_expr (pe_bm PySem.F.plainAttrs_list PySem.F.slot_list_append PySem.F.type_list_append mt_append (pv 1) (pa_cons (pe_tup (pa_cons pe_str (pa_cons (pe_xfA List.mem_cons_self hz hf (pv 0)) pa_nil))) pa_nil))))
      pss_nil)
      (pss_cons (ps_if (pt_truth (pe_callB (call_isX List.mem_cons_self hz hf) (by rfl) T.n_isinstance (by decide +kernel) (pa_cons (pv 0) (pa_cons (pe_glob (v := .ref (He.ga K "BadStanding")) (by rfl) T.g_BadStanding rfl) pa_nil))) (by intro _; rfl))
      (pss_one (ps_expr (pe_bm PySem.F.plainAttrs_list PySem.F.slot_list_append PySem.F.type_list_append mt_append (pv 1) (pa_cons (pe_tup (pa_cons pe_str (pa_cons (pe_xfA List.mem_cons_self hz hf (pv 0)) pa_nil))) pa_nil))))
      pss_nil)
      (pss_cons (ps_if (pt_truth (pe_callB (call_isX List.mem_cons_self hz hf) (by rfl) T.n_isinstance (by decide +kernel) (pa_cons (pv 0) (pa_cons (pe_glob (v := .ref (He.ga K "Unsafe")) (by rfl) T.g_Unsafe rfl) pa_nil))) (by intro _; rfl))
      (pss_one (ps_expr (pe_bm PySem.F.plainAttrs_list PySem.F.slot_list_append PySem.F.type_list_append mt_append (pv 1) (pa_cons (pe_tup (pa_cons pe_str (pa_cons (pe_xfA List.mem_cons_self hz hf (pv 0)) pa_nil))) pa_nil))))
      pss_nil)
      (pss_cons (ps_if (pt_truth (pe_callB (call_isX List.mem_cons_self hz hf) (by rfl) T.n_isinstance (by decide +kernel) (pa_cons (pv 0) (pa_cons (pe_glob (v := .ref (He.ga K "BadTask")) (by rfl) T.g_BadTask rfl) pa_nil))) (by intro _; rfl))
      (pss_one (ps_expr (pe_bm PySem.F.plainAttrs_list PySem.F.slot_list_append PySem.F.type_list_append mt_append (pv 1) (pa_cons (pe_tup (pa_cons pe_str (pa_cons (pe_xfA List.mem_cons_self hz hf (pv 0)) pa_nil))) pa_nil))))
      pss_nil)
      (pss_cons (ps_if (pt_truth (pe_callB (call_isX List.mem_cons_self hz hf) (by rfl) T.n_isinstance (by decide +kernel) (pa_cons (pv 0) (pa_cons (pe_glob (v := .ref (He.ga K "BadAsk")) (by rfl) T.g_BadAsk rfl) pa_nil))) (by intro _; rfl))
      (pss_one (ps_expr (pe_bm PySem.F.plainAttrs_list PySem.F.slot_list_append PySem.F.type_list_append mt_append (pv 1) (pa_cons (pe_tup (pa_cons pe_str (pa_cons (pe_xfA List.mem_cons_self hz hf (pv 0)) pa_nil))) pa_nil))))
      pss_nil)
      (pss_cons (ps_if (pt_truth (pe_callB (call_isX List.mem_cons_self hz hf) (by rfl) T.n_isinstance (by decide +kernel) (pa_cons (pv 0) (pa_cons (pe_glob (v := .ref (He.ga K "BadPlan")) (by rfl) T.g_BadPlan rfl) pa_nil))) (by intro _; rfl))
      (pss_one (ps_expr (pe_bm PySem.F.plainAttrs_list PySem.F.slot_list_append PySem.F.type_list_append mt_append (pv 1) (pa_cons (pe_tup (pa_cons pe_str (pa_cons (pe_xfA List.mem_cons_self hz hf (pv 0)) pa_nil))) pa_nil))))
      pss_nil)
      (pss_cons (ps_if (pt_truth (pe_callB (call_isX List.mem_cons_self hz hf) (by rfl) T.n_isinstance (by decide +kernel) (pa_cons (pv 0) (pa_cons (pe_glob (v := .ref (He.ga K "BadLook")) (by rfl) T.g_BadLook rfl) pa_nil))) (by intro _; rfl))
      (pss_one (ps_expr (pe_bm PySem.F.plainAttrs_list PySem.F.slot_list_append PySem.F.type_list_append mt_append (pv 1) (pa_cons (pe_tup (pa_cons pe_str (pa_cons (pe_xfA List.mem_cons_self hz hf (pv 0)) pa_nil))) pa_nil))))
      pss_nil)
      (pss_cons (ps_if (pt_truth (pe_callB (call_isX List.mem_cons_self hz hf) (by rfl) T.n_isinstance (by decide +kernel) (pa_cons (pv 0) (pa_cons (pe_glob (v := .ref (He.ga K "BadCourse")) (by rfl) T.g_BadCourse rfl) pa_nil))) (by intro _; rfl))
      (pss_one (ps_expr (pe_bm PySem.F.plainAttrs_list PySem.F.slot_list_append PySem.F.type_list_append mt_append (pv 1) (pa_cons (pe_tup (pa_cons pe_str (pa_cons (pe_xfA List.mem_cons_self hz hf (pv 0)) pa_nil))) pa_nil))))
      pss_nil)
      (pss_cons (ps_if (pt_truth (pe_callB (call_isX List.mem_cons_self hz hf) (by rfl) T.n_isinstance (by decide +kernel) (pa_cons (pv 0) (pa_cons (pe_glob (v := .ref (He.ga K "BadText")) (by rfl) T.g_BadText rfl) pa_nil))) (by intro _; rfl))
      (pss_one (ps_expr (pe_bm PySem.F.plainAttrs_list PySem.F.slot_list_append PySem.F.type_list_append mt_append (pv 1) (pa_cons (pe_tup (pa_cons pe_str (pa_cons (pe_xfA List.mem_cons_self hz hf (pv 0)) pa_nil))) pa_nil))))
      pss_nil)
      (pss_cons (ps_if (pt_truth (pe_callB (call_isX List.mem_cons_self hz hf) (by rfl) T.n_isinstance (by decide +kernel) (pa_cons (pv 0) (pa_cons (pe_glob (v := .ref (He.ga K "BadDeed")) (by rfl) T.g_BadDeed rfl) pa_nil))) (by intro _; rfl))
      (pss_one (ps_expr (pe_bm PySem.F.plainAttrs_list PySem.F.slot_list_append PySem.F.type_list_append mt_append (pv 1) (pa_cons (pe_tup (pa_cons pe_str (pa_cons (pe_xfA List.mem_cons_self hz hf (pv 0)) pa_nil))) pa_nil))))
      pss_nil)
      (pss_one (ps_ret (pe_ifExp (PW.pt (pw_and (pt_cmpR (op_eqD hr.units) (pe_callB call_len (by rfl) T.n_len PySem.boot_len (pa_cons (pv 1) pa_nil)) pe_int (nomark _)) (pw_and1 (pt_truth (pe_callB (call_isX List.mem_cons_self hz hf) (by rfl) T.n_isinstance (by decide +kernel) (pa_cons (pv 0) (pa_cons (pe_glob (v := .ref (He.ga K "WorksError")) (by rfl) T.g_WorksError rfl) pa_nil))) (by intro _; rfl))))) (pe_ix ix_seq (pv 1) pe_int (fun _ _ => rfl)) (pe_tup (pa_cons pe_str (pa_cons (pe_callB call_len (by rfl) T.n_len PySem.boot_len (pa_cons (pv 1) pa_nil)) pa_nil))))))))))))))))))))),
      (SOk.seq (SOk.asg (TOk.lst TaOk.nil) (GOk.name (i := 1)))
      (SOk.seq (SOk.ifS (TtOk.truth (opT (TOk.isX (ans := ans_TooMany) hh T.et T.k_TooMany)))
      (SOk.drop (TOk.append (TOk.tup (TaOk.cons TOk.cS (TaOk.cons (TOk.fld (n := "what") hh T.et) TaOk.nil)))))
      SOk.next)
      (SOk.seq (SOk.ifS (TtOk.truth (opT (TOk.isX (ans := ans_BadNet) hh T.et T.k_BadNet)))
      (SOk.drop (TOk.append (TOk.tup (TaOk.cons TOk.cS (TaOk.cons (TOk.fld (n := "what") hh T.et) (TaOk.cons (TOk.fld (n := "number") hh T.et) TaOk.nil))))))
      SOk.next)
      (SOk.seq (SOk.ifS (TtOk.truth (opT (TOk.isX (ans := ans_BadLots) hh T.et T.k_BadLots)))
      (SOk.drop (TOk.append (TOk.tup (TaOk.cons TOk.cS (TaOk.cons (TOk.fld (n := "what") hh T.et) (TaOk.cons (TOk.fld (n := "row") hh T.et) TaOk.nil))))))
      SOk.next)
      (SOk.seq (SOk.ifS (TtOk.truth (opT (TOk.isX (ans := ans_BadWant) hh T.et T.k_BadWant)))
      (SOk.drop (TOk.append (TOk.tup (TaOk.cons TOk.cS (TaOk.cons (TOk.fld (n := "what") hh T.et) (TaOk.cons (TOk.fld (n := "place") hh T.et) TaOk.nil))))))
      SOk.next)
      (SOk.seq (SOk.ifS (TtOk.truth (opT (TOk.isX (ans := ans_BadOutage) hh T.et T.k_BadOutage)))
      (SOk.drop (TOk.append (TOk.tup (TaOk.cons TOk.cS (TaOk.cons (TOk.fld (n := "row") hh T.et) TaOk.nil)))))
      SOk.next)
      (SOk.seq (SOk.ifS (TtOk.truth (opT (TOk.isX (ans := ans_BadStanding) hh T.et T.k_BadStanding)))
      (SOk.drop (TOk.append (TOk.tup (TaOk.cons TOk.cS (TaOk.cons (TOk.fld (n := "valve") hh T.et) TaOk.nil)))))
      SOk.next)
      (SOk.seq (SOk.ifS (TtOk.truth (opT (TOk.isX (ans := ans_Unsafe) hh T.et T.k_Unsafe)))
      (SOk.drop (TOk.append (TOk.tup (TaOk.cons TOk.cS (TaOk.cons (TOk.fld (n := "word") hh T.et) TaOk.nil)))))
      SOk.next)
      (SOk.seq (SOk.ifS (TtOk.truth (opT (TOk.isX (ans := ans_BadTask) hh T.et T.k_BadTask)))
      (SOk.drop (TOk.append (TOk.tup (TaOk.cons TOk.cS (TaOk.cons (TOk.fld (n := "what") hh T.et) TaOk.nil)))))
      SOk.next)
      (SOk.seq (SOk.ifS (TtOk.truth (opT (TOk.isX (ans := ans_BadAsk) hh T.et T.k_BadAsk)))
      (SOk.drop (TOk.append (TOk.tup (TaOk.cons TOk.cS (TaOk.cons (TOk.fld (n := "ask") hh T.et) TaOk.nil)))))
      SOk.next)
      (SOk.seq (SOk.ifS (TtOk.truth (opT (TOk.isX (ans := ans_BadPlan) hh T.et T.k_BadPlan)))
      (SOk.drop (TOk.append (TOk.tup (TaOk.cons TOk.cS (TaOk.cons (TOk.fld (n := "bell") hh T.et) TaOk.nil)))))
      SOk.next)
      (SOk.seq (SOk.ifS (TtOk.truth (opT (TOk.isX (ans := ans_BadLook) hh T.et T.k_BadLook)))
      (SOk.drop (TOk.append (TOk.tup (TaOk.cons TOk.cS (TaOk.cons (TOk.fld (n := "row") hh T.et) TaOk.nil)))))
      SOk.next)
      (SOk.seq (SOk.ifS (TtOk.truth (opT (TOk.isX (ans := ans_BadCourse) hh T.et T.k_BadCourse)))
      (SOk.drop (TOk.append (TOk.tup (TaOk.cons TOk.cS (TaOk.cons (TOk.fld (n := "act") hh T.et) TaOk.nil)))))
      SOk.next)
      (SOk.seq (SOk.ifS (TtOk.truth (opT (TOk.isX (ans := ans_BadText) hh T.et T.k_BadText)))
      (SOk.drop (TOk.append (TOk.tup (TaOk.cons TOk.cS (TaOk.cons (TOk.fld (n := "line") hh T.et) TaOk.nil)))))
      SOk.next)
      (SOk.seq (SOk.ifS (TtOk.truth (opT (TOk.isX (ans := ans_BadDeed) hh T.et T.k_BadDeed)))
      (SOk.drop (TOk.append (TOk.tup (TaOk.cons TOk.cS (TaOk.cons (TOk.fld (n := "what") hh T.et) TaOk.nil)))))
      SOk.next)
      (SOk.ret (TOk.ifV (TtOk.and (TtOk.test (TOk.op2 (opT (TOk.cb1 (opS 1) g_len)) (opT TOk.cI) g_eq)) (TtOk.truth (opT (TOk.isX (ans := ans_WorksError) hh T.et T.k_WorksError)))) (TOk.op2 (opS 1) (opT TOk.cI) g_ix) (TOk.tup (TaOk.cons TOk.cS (TaOk.cons (TOk.cb1 (opS 1) g_len) TaOk.nil)))))))))))))))))))), by decide⟩
abbrev s__law_a_word : Stmt := topS 26
theorem sc__law_a_word : FnScope ["s", "signs", "size", "k"] ["s"] (defScope s__law_a_word) := ⟨rfl, rfl, rfl, by decide +kernel, rfl, by decide +kernel, by decide +kernel⟩
def g__law_a_word : M Flw :=
    (seqM (asgM (pure (.str (PySem.Str.ofString "abcdefghijklmnopqrstuvwxyz0123456789,:>-"))) (stv 1))
    (seqM (asgM (ifV (asB (ev2 (.tmp (callM m__law_pick [.slot 0, .tmp (pure (.int 12))])) (.tmp (pure (.int 0))) oEq)) (pure (.int 60)) (ev2 (.tmp (pure (.int 1))) (.tmp (callM m__law_pick [.slot 0, .tmp (pure (.int 8))])) oPlus)) (stv 2))
    (retM (evM1 (pure (.str (PySem.Str.ofString ""))) (.tmp (lcR1 [3] (consM (mvv 2) (pure [])) (stv 3) (pure true) (ev2 (.slot 1) (.tmp (callM m__law_pick [.slot 0, .tmp (pure (.int 40))])) oIx))) oJoin))))
def m__law_a_word : List D → FRes := defF 4 [true] g__law_a_word
theorem ok__law_a_word (T : Txt P K mg) : DefAt P w K mg base 2 "_law_a_word" ["s"] (spF (cnOf K) [true] m__law_a_word) := by
  have G__law_pick := ok__law_pick (base := base) (P := P) (w := w) T
  refine def_mk (k := 1) T.l__law_a_word sc__law_a_word rfl fun f cdv A outer s H E hr => ?_
  have tk : L2N.Takes (cxOf (L2N.CX P w) P w K mg base ["s", "signs", "size", "k"] "_law_a_word" (defScope s__law_a_word) f cdv A outer s H E) (fun cls d _ H => E cls d H) := L2N.takes_of rfl rfl rfl rfl
  exact ⟨_, _, (pss_cons (ps_set (i := 1) sc__law_a_word.nd rfl (by first | exact .inl rfl | exact .inr rfl) pe_str)
      (pss_cons (ps_set (i := 2) sc__law_a_word.nd rfl (by first | exact .inl rfl | exact .inr rfl) (pe_ifExp (pt_cmpR (op_eqD hr.units) (pe_cd G__law_pick hr (fun σ => L2N.passAt tk σ) (pa_cons (pv 0) (pa_cons pe_int pa_nil))) pe_int (nomark _)) pe_int (pe_op op_plus pe_int (pe_cd G__law_pick hr (fun σ => L2N.passAt tk σ) (pa_cons (pv 0) (pa_cons pe_int pa_nil))))))
      (pss_one (ps_ret (pe_joinK (K := K) rfl pe_str (pe_lc (own := [("k", 3)]) rfl sc__law_a_word.nd (pi_range1 rfl T.n_range (pa_cons (pv 2) pa_nil)) (blkOk_by (by kernel_rfl)) (fun _ _ _ _ _ => (pg_name (i := 3) sc__law_a_word.nd rfl (by first | exact .inl rfl | exact .inr rfl))) (fun _ _ _ _ _ => pts_nil)
      (fun _ _ _ _ _ => (pe_ix ix_seq (pv 1) (pe_cd G__law_pick hr (fun σ => passF σ) (pa_cons (pv 0) (pa_cons pe_int pa_nil))) (fun _ _ => rfl))))))))),
      (SOk.seq (SOk.asg TOk.cS (GOk.name (i := 1)))
      (SOk.seq (SOk.asg (TOk.ifV (TtOk.test (TOk.op2 (opT (TOk.call (AgOk.cons (opS 0) (AgOk.cons (opT TOk.cI) AgOk.nil)))) (opT TOk.cI) g_eq)) TOk.cI (TOk.op2 (opT TOk.cI) (opT (TOk.call (AgOk.cons (opS 0) (AgOk.cons (opT TOk.cI) AgOk.nil)))) g_plus)) (GOk.name (i := 2)))
      (SOk.ret (TOk.m1 TOk.cS (opT (TOk.lcR1 (vs := [3]) (TaOk.cons (TOk.mv (i := 2)) TaOk.nil) (GOk.name (i := 3)) TtOk.yes (TOk.op2 (opS 1) (opT (TOk.call (AgOk.cons (opS 0) (AgOk.cons (opT TOk.cI) AgOk.nil)))) g_ix))) g_joinK)))), by decide⟩
abbrev s__law_a_scan : Stmt := topS 27
theorem sc__law_a_scan : FnScope ["text", "told", "fault", "error"] ["text"] (defScope s__law_a_scan) := ⟨rfl, rfl, rfl, by decide +kernel, rfl, by decide +kernel, by decide +kernel⟩
def g__law_a_scan : M Flw :=
    (seqM (tryM 3 tbl_WorksError (parM 1 2 (consM (callM m_scan_text [.tmp (rdv 0)]) (consM (pure .non) (pure []))))
    (fun x => (parM 1 2 (consM (pure .non) (consM (callX (m__law_fault x) 3) (pure []))))))
    (retM (tupM (consM (mvv 1) (consM (mvv 2) (pure []))))))
def m__law_a_scan : List D → FRes := defF 4 [false] g__law_a_scan
theorem ok__law_a_scan (T : Txt P K mg) : DefAt P w K mg base 4 "_law_a_scan" ["text"] (spF (cnOf K) [false] m__law_a_scan) := by
  have G_scan_text := ok_scan_text (base := base) (P := P) (w := w) T
  have G__law_fault := ok__law_fault (base := base) (P := P) (w := w) T
  refine def_mk (k := 3) T.l__law_a_scan sc__law_a_scan rfl fun f cdv A outer s H E hr => ?_
  have tk : L2N.Takes (cxOf (L2N.CX P w) P w K mg base ["text", "told", "fault", "error"] "_law_a_scan" (defScope s__law_a_scan) f cdv A outer s H E) (fun cls d _ H => E cls d H) := L2N.takes_of rfl rfl rfl rfl
  exact ⟨_, _, (pss_cons (L2N.ps_try_as (i := 3) rfl rfl sc__law_a_scan.nd rfl rfl ⟨rfl, by decide, Or.inl T.g_WorksError⟩ tk (fun W pn xe tk hpo => (pss_one (ps_par (i := 1) (j := 2) rfl sc__law_a_scan.nd rfl rfl (by decide) rfl rfl (pa_cons (pe_cd G_scan_text hr (fun σ => L2N.passAt tk σ) (pa_cons (pv 0) pa_nil)) (pa_cons pe_non pa_nil)) rfl)))
      (fun a oe cls d pn hz hf => (pss_one (ps_parH (i := 1) (j := 2) (hot_suite hz hf) sc__law_a_scan.nd rfl rfl (by decide) rfl rfl (pa_cons pe_non (pa_cons (pe_callX G__law_fault (j := 1) (room_suite hr (by decide)) List.mem_cons_self hz.zc hf (fun σ => passF σ) (pa_cons (pv 3) pa_nil)) pa_nil)) rfl))))
      (pss_one (ps_ret (pe_tup (pa_cons (pv 1) (pa_cons (pv 2) pa_nil)))))),
      (SOk.seq (SOk.tryAs (i := 3) (tbl := tbl_WorksError) rfl (fun W => (SOk.par (TaOk.cons (TOk.call (AgOk.cons (opT (TOk.rd (i := 0))) AgOk.nil)) (TaOk.cons TOk.cN TaOk.nil))))
      (fun a cls d dd x hh => (SOk.par (TaOk.cons TOk.cN (TaOk.cons (TOk.callX hh) TaOk.nil)))) T.x_WorksError)
      (SOk.ret (TOk.tup (TaOk.cons (TOk.mv (i := 1)) (TaOk.cons (TOk.mv (i := 2)) TaOk.nil))))), by decide⟩
abbrev s__law_a_foreign : Stmt := topS 28
theorem sc__law_a_foreign : FnScope ["s"] ["s"] (defScope s__law_a_foreign) := ⟨rfl, rfl, rfl, by decide +kernel, rfl, by decide +kernel, by decide +kernel⟩
def g__law_a_foreign : M Flw :=
    (retM (ev2 (.tmp (pure (.str (PySem.Str.ofString "ABCDEFGHIJKLMNOPQRSTUVWXYZ_.;!?/=+*()[]{}<#$&'@^~|\t\"\\")))) (.tmp (callM m__law_pick [.slot 0, .tmp (pure (.int 53))])) oIx))
def m__law_a_foreign : List D → FRes := defF 1 [true] g__law_a_foreign
theorem ok__law_a_foreign (T : Txt P K mg) : DefAt P w K mg base 2 "_law_a_foreign" ["s"] (spF (cnOf K) [true] m__law_a_foreign) := by
  have G__law_pick := ok__law_pick (base := base) (P := P) (w := w) T
  refine def_mk (k := 1) T.l__law_a_foreign sc__law_a_foreign rfl fun f cdv A outer s H E hr => ?_
  have tk : L2N.Takes (cxOf (L2N.CX P w) P w K mg base ["s"] "_law_a_foreign" (defScope s__law_a_foreign) f cdv A outer s H E) (fun cls d _ H => E cls d H) := L2N.takes_of rfl rfl rfl rfl
  exact ⟨_, _, (pss_one (ps_ret (pe_ix ix_seq pe_str (pe_cd G__law_pick hr (fun σ => L2N.passAt tk σ) (pa_cons (pv 0) (pa_cons pe_int pa_nil))) (fun _ _ => rfl)))),
      (SOk.ret (TOk.op2 (opT TOk.cS) (opT (TOk.call (AgOk.cons (opS 0) (AgOk.cons (opT TOk.cI) AgOk.nil)))) g_ix)), by decide⟩
abbrev s__law_a_wrong : Stmt := topS 29
theorem sc__law_a_wrong : FnScope ["s", "row", "kind", "line", "at"] ["s", "row", "kind"] (defScope s__law_a_wrong) := ⟨rfl, rfl, rfl, by decide +kernel, rfl, by decide +kernel, by decide +kernel⟩
def g__law_a_wrong : M Flw :=
    (seqM (asgM (evM1 (pure (.str (PySem.Str.ofString " "))) (.slot 1) oJoin) (stv 3))
    (seqM (ifM (asB (ev2 (.slot 2) (.tmp (pure (.int 0))) oEq))
    (seqM (asgM (callM m__law_pick [.slot 0, .tmp (ev1 (.slot 1) oLen)]) (stv 4))
    (retM (evM1 (pure (.str (PySem.Str.ofString " "))) (.tmp (ev2 (.tmp (ev2 (.tmp (evS (.slot 1) none (some (rdv 4)) oSl)) (.tmp (lstM (consM (pure (.str (PySem.Str.ofString ""))) (pure [])))) oPlus)) (.tmp (evS (.slot 1) (some (rdv 4)) none oSl)) oPlus)) oJoin)))
    (pure .nx))
    (seqM (ifM (asB (ev2 (.slot 2) (.tmp (pure (.int 1))) oEq))
    (retM (ev2 (.slot 3) (.tmp (pure (.str (PySem.Str.ofString " ")))) oPlus))
    (pure .nx))
    (seqM (ifM (asB (ev2 (.slot 2) (.tmp (pure (.int 2))) oEq))
    (retM (ev2 (.tmp (pure (.str (PySem.Str.ofString " ")))) (.slot 3) oPlus))
    (pure .nx))
    (seqM (ifM (asB (ev2 (.slot 2) (.tmp (pure (.int 3))) oEq))
    (retM (pure (.str (PySem.Str.ofString ""))))
    (pure .nx))
    (seqM (asgM (callM m__law_pick [.slot 0, .tmp (ev2 (.tmp (ev1 (.slot 3) oLen)) (.tmp (pure (.int 1))) oPlus)]) (stv 4))
    (retM (ev2 (.tmp (ev2 (.tmp (evS (.slot 3) none (some (rdv 4)) oSl)) (.tmp (callM m__law_a_foreign [.slot 0])) oPlus)) (.tmp (evS (.slot 3) (some (rdv 4)) none oSl)) oPlus))))))))
def m__law_a_wrong : List D → FRes := defF 5 [true, false, false] g__law_a_wrong
theorem ok__law_a_wrong (T : Txt P K mg) : DefAt P w K mg base 3 "_law_a_wrong" ["s", "row", "kind"] (spF (cnOf K) [true, false, false] m__law_a_wrong) := by
  have G__law_pick := ok__law_pick (base := base) (P := P) (w := w) T
  have G__law_a_foreign := ok__law_a_foreign (base := base) (P := P) (w := w) T
  refine def_mk (k := 2) T.l__law_a_wrong sc__law_a_wrong rfl fun f cdv A outer s H E hr => ?_
  have tk : L2N.Takes (cxOf (L2N.CX P w) P w K mg base ["s", "row", "kind", "line", "at"] "_law_a_wrong" (defScope s__law_a_wrong) f cdv A outer s H E) (fun cls d _ H => E cls d H) := L2N.takes_of rfl rfl rfl rfl
  exact ⟨_, _, (pss_cons (ps_set (i := 3) sc__law_a_wrong.nd rfl (by first | exact .inl rfl | exact .inr rfl) (pe_joinK (K := K) rfl pe_str (pv 1)))
      (pss_cons (ps_if (pt_cmpR (op_eqD hr.units) (pv 2) pe_int (nomark _))
      (pss_cons (ps_set (i := 4) sc__law_a_wrong.nd rfl (by first | exact .inl rfl | exact .inr rfl) (pe_cd G__law_pick hr (fun σ => L2N.passAt tk σ) (pa_cons (pv 0) (pa_cons (pe_callB call_len (by rfl) T.n_len PySem.boot_len (pa_cons (pv 1) pa_nil)) pa_nil))))
      (pss_one (ps_ret (pe_joinK (K := K) rfl pe_str (pe_op op_plus (pe_op op_plus (pe_slice sl_any (pv 1) po_none (po_some (pv 4))) (pe_lst (pa_cons pe_str pa_nil))) (pe_slice sl_any (pv 1) (po_some (pv 4)) po_none))))))
      pss_nil)
      (pss_cons (ps_if (pt_cmpR (op_eqD hr.units) (pv 2) pe_int (nomark _))
      (pss_one (ps_ret (pe_op op_plus (pv 3) pe_str)))
      pss_nil)
      (pss_cons (ps_if (pt_cmpR (op_eqD hr.units) (pv 2) pe_int (nomark _))
      (pss_one (ps_ret (pe_op op_plus pe_str (pv 3))))
      pss_nil)
      (pss_cons (ps_if (pt_cmpR (op_eqD hr.units) (pv 2) pe_int (nomark _))
      (pss_one (ps_ret pe_str))
      pss_nil)
      (pss_cons (ps_set (i := 4) sc__law_a_wrong.nd rfl (by first | exact .inl rfl | exact .inr rfl) (pe_cd G__law_pick hr (fun σ => L2N.passAt tk σ) (pa_cons (pv 0) (pa_cons (pe_op op_plus (pe_callB call_len (by rfl) T.n_len PySem.boot_len (pa_cons (pv 3) pa_nil)) pe_int) pa_nil))))
      (pss_one (ps_ret (pe_op op_plus (pe_op op_plus (pe_slice sl_any (pv 3) po_none (po_some (pv 4))) (pe_cd G__law_a_foreign hr (fun σ => L2N.passAt tk σ) (pa_cons (pv 0) pa_nil))) (pe_slice sl_any (pv 3) (po_some (pv 4)) po_none)))))))))),
      (SOk.seq (SOk.asg (TOk.m1 TOk.cS (opS 1) g_joinK) (GOk.name (i := 3)))
      (SOk.seq (SOk.ifS (TtOk.test (TOk.op2 (opS 2) (opT TOk.cI) g_eq))
      (SOk.seq (SOk.asg (TOk.call (AgOk.cons (opS 0) (AgOk.cons (opT (TOk.cb1 (opS 1) g_len)) AgOk.nil))) (GOk.name (i := 4)))
      (SOk.ret (TOk.m1 TOk.cS (opT (TOk.op2 (opT (TOk.op2 (opT (TOk.slice (opS 1) rfl ⟨_, rfl, (TOk.rd (i := 4))⟩ g_sl)) (opT (TOk.lst (TaOk.cons TOk.cS TaOk.nil))) g_plus)) (opT (TOk.slice (opS 1) ⟨_, rfl, (TOk.rd (i := 4))⟩ rfl g_sl)) g_plus)) g_joinK)))
      SOk.next)
      (SOk.seq (SOk.ifS (TtOk.test (TOk.op2 (opS 2) (opT TOk.cI) g_eq))
      (SOk.ret (TOk.op2 (opS 3) (opT TOk.cS) g_plus))
      SOk.next)
      (SOk.seq (SOk.ifS (TtOk.test (TOk.op2 (opS 2) (opT TOk.cI) g_eq))
      (SOk.ret (TOk.op2 (opT TOk.cS) (opS 3) g_plus))
      SOk.next)
      (SOk.seq (SOk.ifS (TtOk.test (TOk.op2 (opS 2) (opT TOk.cI) g_eq))
      (SOk.ret TOk.cS)
      SOk.next)
      (SOk.seq (SOk.asg (TOk.call (AgOk.cons (opS 0) (AgOk.cons (opT (TOk.op2 (opT (TOk.cb1 (opS 3) g_len)) (opT TOk.cI) g_plus)) AgOk.nil))) (GOk.name (i := 4)))
      (SOk.ret (TOk.op2 (opT (TOk.op2 (opT (TOk.slice (opS 3) rfl ⟨_, rfl, (TOk.rd (i := 4))⟩ g_sl)) (opT (TOk.call (AgOk.cons (opS 0) AgOk.nil))) g_plus)) (opT (TOk.slice (opS 3) ⟨_, rfl, (TOk.rd (i := 4))⟩ rfl g_sl)) g_plus)))))))), by decide⟩
abbrev s__law_a_lines : Stmt := topS 30
theorem sc__law_a_lines : FnScope ["lines", "line"] ["lines"] (defScope s__law_a_lines) := ⟨rfl, rfl, rfl, by decide +kernel, rfl, by decide +kernel, by decide +kernel⟩
def g__law_a_lines : M Flw :=
    (retM (evM1 (pure (.str (PySem.Str.ofString ""))) (.tmp (lcB [1] 0 (stv 1) (pure true) (ev2 (.slot 1) (.tmp (pure (.str (PySem.Str.ofString "\n")))) oPlus))) oJoin))
def m__law_a_lines : List D → FRes := defF 2 [true] g__law_a_lines
theorem ok__law_a_lines (T : Txt P K mg) : DefAt P w K mg base 1 "_law_a_lines" ["lines"] (spF (cnOf K) [true] m__law_a_lines) := by
  refine def_mk (k := 0) T.l__law_a_lines sc__law_a_lines rfl fun f cdv A outer s H E hr => ?_
  have tk : L2N.Takes (cxOf (L2N.CX P w) P w K mg base ["lines", "line"] "_law_a_lines" (defScope s__law_a_lines) f cdv A outer s H E) (fun cls d _ H => E cls d H) := L2N.takes_of rfl rfl rfl rfl
  exact ⟨_, _, (pss_one (ps_ret (pe_joinK (K := K) rfl pe_str (pe_lc (own := [("line", 1)]) rfl sc__law_a_lines.nd (pi_list (pv 0)) (blkOk_by (by kernel_rfl)) (fun _ _ _ _ _ => (pg_name (i := 1) sc__law_a_lines.nd rfl (by first | exact .inl rfl | exact .inr rfl))) (fun _ _ _ _ _ => pts_nil)
      (fun _ _ _ _ _ => (pe_op op_plus (pv 1) pe_str)))))),
      (SOk.ret (TOk.m1 TOk.cS (opT (TOk.lcB (vs := [1]) (i := 0) (GOk.name (i := 1)) TtOk.yes (TOk.op2 (opS 1) (opT TOk.cS) g_plus))) g_joinK)), by decide⟩
abbrev s_law : Stmt := topS 31
theorem sc_law : FnScope ["script", "s", "many", "rows", "lines", "told", "fault", "at", "kind", "spoilt", "text", "wrong", "due", "k", "j", "row"] ["script"] (defScope s_law) := ⟨rfl, rfl, rfl, by decide +kernel, rfl, by decide +kernel, by decide +kernel⟩
def g_law : M Flw :=
    (seqM (asgM (callM m__law_source [.tmp (mvv 0), .tmp (pure (.int 0))]) (stv 1))
    (seqM (asgM (ifV (asB (ev2 (.tmp (callM m__law_pick [.slot 1, .tmp (pure (.int 12))])) (.tmp (pure (.int 0))) oEq)) (pure (.int 60)) (ev2 (.tmp (pure (.int 1))) (.tmp (callM m__law_pick [.slot 1, .tmp (pure (.int 12))])) oPlus)) (stv 2))
    (seqM (asgM (lcR1 [13] (consM (rdv 2) (pure [])) (stv 13) (pure true) (lcR1 [14] (consM (ev2 (.tmp (pure (.int 1))) (.tmp (callM m__law_pick [.slot 1, .tmp (pure (.int 6))])) oPlus) (pure [])) (stv 14) (pure true) (callM m__law_a_word [.slot 1]))) (stv 3))
    (seqM (asgM (lcL [15] (rdv 3) (stv 15) (pure true) (evM1 (pure (.str (PySem.Str.ofString " "))) (.slot 15) oJoin)) (stv 4))
    (seqM (asgM (callM m__law_a_scan [.tmp (callM m__law_a_lines [.slot 4])]) (fun d => match d with | .tup ds => (if ds.length = 2 then (fun ds => match ds with | d :: r => (do (stv 5) d; (fun ds => match ds with | d :: r => (do (stv 6) d; (fun ds => match ds with | [] => pure () | _ => badM) r) | [] => badM) r) | [] => badM) ds else badM) | _ => badM))
    (seqM (ifM (orT (asB (ev2 (.slot 6) (.tmp (pure .non)) oIsNot)) (notT (evT (.tmp (callM (m__law_same 4) [.slot 5, .slot 3])))))
    (retM (pure (.bl false)))
    (pure .nx))
    (seqM (dropM (appE 5 0 (pure (.str (PySem.Str.ofString "more")))))
    (seqM (dropM (appM 5 (lstM (pure []))))
    (seqM (asgM (ifV (asB (ev2 (.tmp (callM m__law_pick [.slot 1, .tmp (pure (.int 3))])) (.tmp (pure (.int 0))) oEq)) (ev2 (.slot 2) (.tmp (pure (.int 1))) oSub) (callM m__law_pick [.slot 1, .tmp (rdv 2)])) (stv 7))
    (seqM (asgM (callM m__law_pick [.slot 1, .tmp (pure (.int 6))]) (stv 8))
    (seqM (asgM (ev1 (.slot 4) oList) (stv 9))
    (seqM (ifM (asB (ev2 (.slot 8) (.tmp (pure (.int 5))) oEq))
    (asgM (ev2 (.slot 2) (.tmp (pure (.int 1))) oSub) (stv 7))
    (setIx 9 (callM m__law_a_wrong [.slot 1, .tmp (ev2 (.slot 3) (.slot 7) oIx), .tmp (rdv 8)]) (rdv 7)))
    (seqM (asgM (callM m__law_a_lines [.slot 9]) (stv 10))
    (seqM (ifM (orT (asB (ev2 (.slot 8) (.tmp (pure (.int 5))) oEq)) (andT (asB (ev2 (.tmp (ev2 (.slot 9) (.tmp (ev2 (.slot 2) (.tmp (pure (.int 1))) oSub)) oIx)) (.tmp (pure (.str (PySem.Str.ofString "")))) oNe)) (asB (ev2 (.tmp (callM m__law_pick [.slot 1, .tmp (pure (.int 4))])) (.tmp (pure (.int 0))) oEq))))
    (asgM (evS (.slot 10) none (some (ev1 (.tmp (pure (.int 1))) oNeg)) oSl) (stv 10))
    (ifM (andT (asB (ev2 (.tmp (ev2 (.slot 7) (.tmp (pure (.int 1))) oPlus)) (.slot 2) oLt)) (evT (.tmp (callM m__law_pick [.slot 1, .tmp (pure (.int 2))]))))
    (seqM (setIx 9 (callM m__law_a_wrong [.slot 1, .tmp (ev2 (.slot 3) (.tmp (ev2 (.slot 2) (.tmp (pure (.int 1))) oSub)) oIx), .tmp (callM m__law_pick [.slot 1, .tmp (pure (.int 5))])]) (ev2 (.slot 2) (.tmp (pure (.int 1))) oSub))
    (asgM (callM m__law_a_lines [.slot 9]) (stv 10)))
    (pure .nx)))
    (seqM (forL (lstM (consM (tupM (consM (mvv 10) (consM (ev2 (.slot 7) (.tmp (pure (.int 1))) oPlus) (pure [])))) (consM (tupM (consM (pure (.str (PySem.Str.ofString ""))) (consM (pure (.int 1)) (pure [])))) (pure [])))) (fun d => match d with | .tup ds => (if ds.length = 2 then (fun ds => match ds with | d :: r => (do (stv 11) d; (fun ds => match ds with | d :: r => (do (stv 12) d; (fun ds => match ds with | [] => pure () | _ => badM) r) | [] => badM) r) | [] => badM) ds else badM) | _ => badM)
    (seqM (asgM (callM m__law_a_scan [.tmp (mvv 11)]) (fun d => match d with | .tup ds => (if ds.length = 2 then (fun ds => match ds with | d :: r => (do (stv 5) d; (fun ds => match ds with | d :: r => (do (stv 6) d; (fun ds => match ds with | [] => pure () | _ => badM) r) | [] => badM) r) | [] => badM) ds else badM) | _ => badM))
    (ifM (orT (asB (ev2 (.slot 5) (.tmp (pure .non)) oIsNot)) (notT (evT (.tmp (callM (m__law_same 4) [.slot 6, .tmp (tupM (consM (pure (.str (PySem.Str.ofString "BadText"))) (consM (rdv 12) (pure []))))])))))
    (retM (pure (.bl false)))
    (pure .nx))))
    (seqM (asgM (callM m__law_a_scan [.tmp (callM m__law_a_lines [.slot 4])]) (fun d => match d with | .tup ds => (if ds.length = 2 then (fun ds => match ds with | d :: r => (do (stv 5) d; (fun ds => match ds with | d :: r => (do (stv 6) d; (fun ds => match ds with | [] => pure () | _ => badM) r) | [] => badM) r) | [] => badM) ds else badM) | _ => badM))
    (retM (andV (ev2 (.slot 6) (.tmp (pure .non)) oIs) (callM (m__law_same 4) [.slot 5, .slot 3])))))))))))))))))))
def m_law : List D → FRes := defF 16 [false] g_law
theorem ok_law (T : Txt P K mg) : DefAt P w K mg base 6 "law" ["script"] (spF (cnOf K) [false] m_law) := by
  have G__law_source := ok__law_source (base := base) (P := P) (w := w) T
  have G__law_pick := ok__law_pick (base := base) (P := P) (w := w) T
  have G__law_a_word := ok__law_a_word (base := base) (P := P) (w := w) T
  have G__law_a_scan := ok__law_a_scan (base := base) (P := P) (w := w) T
  have G__law_a_lines := ok__law_a_lines (base := base) (P := P) (w := w) T
  have G__law_same := ok__law_same (base := base) (P := P) (w := w) T 4
  have G__law_a_wrong := ok__law_a_wrong (base := base) (P := P) (w := w) T
  refine def_mk (k := 5) T.l_law sc_law rfl fun f cdv A outer s H E hr => ?_
  have tk : L2N.Takes (cxOf (L2N.CX P w) P w K mg base ["script", "s", "many", "rows", "lines", "told", "fault", "at", "kind", "spoilt", "text", "wrong", "due", "k", "j", "row"] "law" (defScope s_law) f cdv A outer s H E) (fun cls d _ H => E cls d H) := L2N.takes_of rfl rfl rfl rfl
  exact ⟨_, _, (pss_cons (ps_set (i := 1) sc_law.nd rfl (by first | exact .inl rfl | exact .inr rfl) (pe_cd G__law_source hr (fun σ => L2N.passAt tk σ) (pa_cons (pv 0) (pa_cons pe_int pa_nil))))
      (pss_cons (ps_set (i := 2) sc_law.nd rfl (by first | exact .inl rfl | exact .inr rfl) (pe_ifExp (pt_cmpR (op_eqD hr.units) (pe_cd G__law_pick hr (fun σ => L2N.passAt tk σ) (pa_cons (pv 1) (pa_cons pe_int pa_nil))) pe_int (nomark _)) pe_int (pe_op op_plus pe_int (pe_cd G__law_pick hr (fun σ => L2N.passAt tk σ) (pa_cons (pv 1) (pa_cons pe_int pa_nil))))))
      (pss_cons (ps_setLc (i := 3) (own := [("k", 13)]) rfl sc_law.nd rfl rfl (sw_true rfl rfl rfl (by decide +kernel)) (pi_range1 rfl T.n_range (pa_cons (pv 2) pa_nil)) (blkOk_by (by kernel_rfl)) (fun _ _ _ _ _ => (pg_name (i := 13) sc_law.nd rfl (by first | exact .inl rfl | exact .inr rfl))) (fun _ _ _ _ _ => pts_nil)
      (fun _ _ _ _ _ => (pe_lc (own := [("j", 14)]) rfl sc_law.nd (pi_range1 rfl T.n_range (pa_cons (pe_op op_plus pe_int (pe_cd G__law_pick hr (fun σ => passF σ) (pa_cons (pv 1) (pa_cons pe_int pa_nil)))) pa_nil)) (blkOk_by (by kernel_rfl)) (fun _ _ _ _ _ => (pg_name (i := 14) sc_law.nd rfl (by first | exact .inl rfl | exact .inr rfl))) (fun _ _ _ _ _ => pts_nil)
      (fun _ _ _ _ _ => (pe_cd G__law_a_word hr (fun σ => passF σ) (pa_cons (pv 1) pa_nil))))))
      (pss_cons (ps_setLc (i := 4) (own := [("row", 15)]) rfl sc_law.nd rfl rfl (sw_true rfl rfl rfl (by decide +kernel)) (pi_list (pv 3)) (blkOk_by (by kernel_rfl)) (fun _ _ _ _ _ => (pg_name (i := 15) sc_law.nd rfl (by first | exact .inl rfl | exact .inr rfl))) (fun _ _ _ _ _ => pts_nil)
      (fun _ _ _ _ _ => (pe_joinK (K := K) rfl pe_str (pv 15))))
      (pss_cons (ps_asg (pe_cd G__law_a_scan hr (fun σ => L2N.passAt tk σ) (pa_cons (pe_cd G__law_a_lines hr (fun σ => L2N.passAt tk σ) (pa_cons (pv 4) pa_nil)) pa_nil)) (pg_tup rfl (pgs_cons (pg_name (i := 5) sc_law.nd rfl (by first | exact .inl rfl | exact .inr rfl)) (pgs_cons (pg_name (i := 6) sc_law.nd rfl (by first | exact .inl rfl | exact .inr rfl)) pgs_nil))))
      (pss_cons (ps_if (PW.pt (pw_or (pt_cmpR op_notN (pv 6) pe_non (nomark _)) (pw_or1 (pt_not (pt_truth (pe_cd G__law_same hr (fun σ => L2N.passAt tk σ) (pa_cons (pv 5) (pa_cons (pv 3) pa_nil))) (by intro _; rfl))))))
      (pss_one (ps_ret pe_bl))
      pss_nil)
      (pss_cons (ps_expr (pe_bm PySem.F.plainAttrs_list PySem.F.slot_list_append PySem.F.type_list_append mt_append (pe_ix ix_seq (pv 5) pe_int (fun _ _ => rfl)) (pa_cons pe_str pa_nil)))
      (pss_cons (ps_expr (pe_bm PySem.F.plainAttrs_list PySem.F.slot_list_append PySem.F.type_list_append mt_append (pv 5) (pa_cons (pe_lst pa_nil) pa_nil)))
      (pss_cons (ps_set (i := 7) sc_law.nd rfl (by first | exact .inl rfl | exact .inr rfl) (pe_ifExp (pt_cmpR (op_eqD hr.units) (pe_cd G__law_pick hr (fun σ => L2N.passAt tk σ) (pa_cons (pv 1) (pa_cons pe_int pa_nil))) pe_int (nomark _)) (pe_op op_sub (pv 2) pe_int) (pe_cd G__law_pick hr (fun σ => L2N.passAt tk σ) (pa_cons (pv 1) (pa_cons (pv 2) pa_nil)))))
      (pss_cons (ps_set (i := 8) sc_law.nd rfl (by first | exact .inl rfl | exact .inr rfl) (pe_cd G__law_pick hr (fun σ => L2N.passAt tk σ) (pa_cons (pv 1) (pa_cons pe_int pa_nil))))
      (pss_cons (ps_set (i := 9) sc_law.nd rfl (by first | exact .inl rfl | exact .inr rfl) (pe_callTy call_list_of (by rfl) T.n_list (by decide +kernel) (pa_cons (pv 4) pa_nil)))
      (pss_cons (ps_if (pt_cmpR (op_eqD hr.units) (pv 8) pe_int (nomark _))
      (pss_one (ps_set (i := 7) sc_law.nd rfl (by first | exact .inl rfl | exact .inr rfl) (pe_op op_sub (pv 2) pe_int)))
      (pss_one (ps_asg (pe_cd G__law_a_wrong hr (fun σ => L2N.passAt tk σ) (pa_cons (pv 1) (pa_cons (pe_ix ix_seq (pv 3) (pv 7) (fun _ _ => rfl)) (pa_cons (pv 8) pa_nil)))) (pg_sub (pv 9) (pv 7) set_list))))
      (pss_cons (ps_set (i := 10) sc_law.nd rfl (by first | exact .inl rfl | exact .inr rfl) (pe_cd G__law_a_lines hr (fun σ => L2N.passAt tk σ) (pa_cons (pv 9) pa_nil)))
      (pss_cons (ps_if (PW.pt (pw_or (pt_cmpR (op_eqD hr.units) (pv 8) pe_int (nomark _)) (pw_or1 (PW.pt (pw_and (pt_cmpR (op_neD hr.units) (pe_ix ix_seq (pv 9) (pe_op op_sub (pv 2) pe_int) (fun _ _ => rfl)) pe_str (nomark _)) (pw_and1 (pt_cmpR (op_eqD hr.units) (pe_cd G__law_pick hr (fun σ => L2N.passAt tk σ) (pa_cons (pv 1) (pa_cons pe_int pa_nil))) pe_int (nomark _))))))))
      (pss_one (ps_set (i := 10) sc_law.nd rfl (by first | exact .inl rfl | exact .inr rfl) (pe_slice sl_any (pv 10) po_none (po_some (pe_un un_neg pe_int)))))
      (pss_one (ps_if (PW.pt (pw_and (pt_cmpR op_lt (pe_op op_plus (pv 7) pe_int) (pv 2) (nomark _)) (pw_and1 (pt_truth (pe_cd G__law_pick hr (fun σ => L2N.passAt tk σ) (pa_cons (pv 1) (pa_cons pe_int pa_nil))) (by intro _; rfl)))))
      (pss_cons (ps_asg (pe_cd G__law_a_wrong hr (fun σ => L2N.passAt tk σ) (pa_cons (pv 1) (pa_cons (pe_ix ix_seq (pv 3) (pe_op op_sub (pv 2) pe_int) (fun _ _ => rfl)) (pa_cons (pe_cd G__law_pick hr (fun σ => L2N.passAt tk σ) (pa_cons (pv 1) (pa_cons pe_int pa_nil))) pa_nil)))) (pg_sub (pv 9) (pe_op op_sub (pv 2) pe_int) set_list))
      (pss_one (ps_set (i := 10) sc_law.nd rfl (by first | exact .inl rfl | exact .inr rfl) (pe_cd G__law_a_lines hr (fun σ => L2N.passAt tk σ) (pa_cons (pv 9) pa_nil)))))
      pss_nil)))
      (pss_cons (ps_for (passes_of rfl) rfl (pi_list (pe_lst (pa_cons (pe_tup (pa_cons (pv 10) (pa_cons (pe_op op_plus (pv 7) pe_int) pa_nil))) (pa_cons (pe_tup (pa_cons pe_str (pa_cons pe_int pa_nil))) pa_nil)))) (pg_tup rfl (pgs_cons (pg_name (i := 11) sc_law.nd rfl (by first | exact .inl rfl | exact .inr rfl)) (pgs_cons (pg_name (i := 12) sc_law.nd rfl (by first | exact .inl rfl | exact .inr rfl)) pgs_nil)))
      (pss_cons (ps_asg (pe_cd G__law_a_scan hr (fun σ => L2N.passAt tk σ) (pa_cons (pv 11) pa_nil)) (pg_tup rfl (pgs_cons (pg_name (i := 5) sc_law.nd rfl (by first | exact .inl rfl | exact .inr rfl)) (pgs_cons (pg_name (i := 6) sc_law.nd rfl (by first | exact .inl rfl | exact .inr rfl)) pgs_nil))))
      (pss_one (ps_if (PW.pt (pw_or (pt_cmpR op_notN (pv 5) pe_non (nomark _)) (pw_or1 (pt_not (pt_truth (pe_cd G__law_same hr (fun σ => L2N.passAt tk σ) (pa_cons (pv 6) (pa_cons (pe_tup (pa_cons pe_str (pa_cons (pv 12) pa_nil))) pa_nil))) (by intro _; rfl))))))
      (pss_one (ps_ret pe_bl))
      pss_nil))))
      (pss_cons (ps_asg (pe_cd G__law_a_scan hr (fun σ => L2N.passAt tk σ) (pa_cons (pe_cd G__law_a_lines hr (fun σ => L2N.passAt tk σ) (pa_cons (pv 4) pa_nil)) pa_nil)) (pg_tup rfl (pgs_cons (pg_name (i := 5) sc_law.nd rfl (by first | exact .inl rfl | exact .inr rfl)) (pgs_cons (pg_name (i := 6) sc_law.nd rfl (by first | exact .inl rfl | exact .inr rfl)) pgs_nil))))
      (pss_one (ps_ret (pe_and (pe_cmpR op_isN (pv 6) pe_non (nomark _)) (pe_one (pe_cd G__law_same hr (fun σ => L2N.passAt tk σ) (pa_cons (pv 5) (pa_cons (pv 3) pa_nil))))))))))))))))))))))),
      (SOk.seq (SOk.asg (TOk.call (AgOk.cons (opT (TOk.mv (i := 0))) (AgOk.cons (opT TOk.cI) AgOk.nil))) (GOk.name (i := 1)))
      (SOk.seq (SOk.asg (TOk.ifV (TtOk.test (TOk.op2 (opT (TOk.call (AgOk.cons (opS 1) (AgOk.cons (opT TOk.cI) AgOk.nil)))) (opT TOk.cI) g_eq)) TOk.cI (TOk.op2 (opT TOk.cI) (opT (TOk.call (AgOk.cons (opS 1) (AgOk.cons (opT TOk.cI) AgOk.nil)))) g_plus)) (GOk.name (i := 2)))
      (SOk.seq (SOk.asg (TOk.lcR1 (vs := [13]) (TaOk.cons (TOk.rd (i := 2)) TaOk.nil) (GOk.name (i := 13)) TtOk.yes (TOk.lcR1 (vs := [14]) (TaOk.cons (TOk.op2 (opT TOk.cI) (opT (TOk.call (AgOk.cons (opS 1) (AgOk.cons (opT TOk.cI) AgOk.nil)))) g_plus) TaOk.nil) (GOk.name (i := 14)) TtOk.yes (TOk.call (AgOk.cons (opS 1) AgOk.nil)))) (GOk.name (i := 3)))
      (SOk.seq (SOk.asg (TOk.lcL (vs := [15]) (TOk.rd (i := 3)) (GOk.name (i := 15)) TtOk.yes (TOk.m1 TOk.cS (opS 15) g_joinK)) (GOk.name (i := 4)))
      (SOk.seq (SOk.asg (TOk.call (AgOk.cons (opT (TOk.call (AgOk.cons (opS 4) AgOk.nil))) AgOk.nil)) (GOk.tup (n := 2) (GsOk.cons (GOk.name (i := 5)) (GsOk.cons (GOk.name (i := 6)) GsOk.nil))))
      (SOk.seq (SOk.ifS (TtOk.or (TtOk.test (TOk.op2 (opS 6) (opT TOk.cN) g_isNot)) (TtOk.not (TtOk.truth (opT (TOk.call (AgOk.cons (opS 5) (AgOk.cons (opS 3) AgOk.nil)))))))
      (SOk.ret TOk.cB)
      SOk.next)
      (SOk.seq (SOk.drop (TOk.appE (n := 0) TOk.cS))
      (SOk.seq (SOk.drop (TOk.append (TOk.lst TaOk.nil)))
      (SOk.seq (SOk.asg (TOk.ifV (TtOk.test (TOk.op2 (opT (TOk.call (AgOk.cons (opS 1) (AgOk.cons (opT TOk.cI) AgOk.nil)))) (opT TOk.cI) g_eq)) (TOk.op2 (opS 2) (opT TOk.cI) g_sub) (TOk.call (AgOk.cons (opS 1) (AgOk.cons (opT (TOk.rd (i := 2))) AgOk.nil)))) (GOk.name (i := 7)))
      (SOk.seq (SOk.asg (TOk.call (AgOk.cons (opS 1) (AgOk.cons (opT TOk.cI) AgOk.nil))) (GOk.name (i := 8)))
      (SOk.seq (SOk.asg (TOk.cb1 (opS 4) g_list) (GOk.name (i := 9)))
      (SOk.seq (SOk.ifS (TtOk.test (TOk.op2 (opS 8) (opT TOk.cI) g_eq))
      (SOk.asg (TOk.op2 (opS 2) (opT TOk.cI) g_sub) (GOk.name (i := 7)))
      (SOk.setIx (TOk.call (AgOk.cons (opS 1) (AgOk.cons (opT (TOk.op2 (opS 3) (opS 7) g_ix)) (AgOk.cons (opT (TOk.rd (i := 8))) AgOk.nil)))) (TOk.rd (i := 7))))
      (SOk.seq (SOk.asg (TOk.call (AgOk.cons (opS 9) AgOk.nil)) (GOk.name (i := 10)))
      (SOk.seq (SOk.ifS (TtOk.or (TtOk.test (TOk.op2 (opS 8) (opT TOk.cI) g_eq)) (TtOk.and (TtOk.test (TOk.op2 (opT (TOk.op2 (opS 9) (opT (TOk.op2 (opS 2) (opT TOk.cI) g_sub)) g_ix)) (opT TOk.cS) g_ne)) (TtOk.test (TOk.op2 (opT (TOk.call (AgOk.cons (opS 1) (AgOk.cons (opT TOk.cI) AgOk.nil)))) (opT TOk.cI) g_eq))))
      (SOk.asg (TOk.slice (opS 10) rfl ⟨_, rfl, (TOk.un (opT TOk.cI) g_neg)⟩ g_sl) (GOk.name (i := 10)))
      (SOk.ifS (TtOk.and (TtOk.test (TOk.op2 (opT (TOk.op2 (opS 7) (opT TOk.cI) g_plus)) (opS 2) g_lt)) (TtOk.truth (opT (TOk.call (AgOk.cons (opS 1) (AgOk.cons (opT TOk.cI) AgOk.nil))))))
      (SOk.seq (SOk.setIx (TOk.call (AgOk.cons (opS 1) (AgOk.cons (opT (TOk.op2 (opS 3) (opT (TOk.op2 (opS 2) (opT TOk.cI) g_sub)) g_ix)) (AgOk.cons (opT (TOk.call (AgOk.cons (opS 1) (AgOk.cons (opT TOk.cI) AgOk.nil)))) AgOk.nil)))) (TOk.op2 (opS 2) (opT TOk.cI) g_sub))
      (SOk.asg (TOk.call (AgOk.cons (opS 9) AgOk.nil)) (GOk.name (i := 10))))
      SOk.next))
      (SOk.seq (SOk.forL (TOk.lst (TaOk.cons (TOk.tup (TaOk.cons (TOk.mv (i := 10)) (TaOk.cons (TOk.op2 (opS 7) (opT TOk.cI) g_plus) TaOk.nil))) (TaOk.cons (TOk.tup (TaOk.cons TOk.cS (TaOk.cons TOk.cI TaOk.nil))) TaOk.nil))) (GOk.tup (n := 2) (GsOk.cons (GOk.name (i := 11)) (GsOk.cons (GOk.name (i := 12)) GsOk.nil)))
      (SOk.seq (SOk.asg (TOk.call (AgOk.cons (opT (TOk.mv (i := 11))) AgOk.nil)) (GOk.tup (n := 2) (GsOk.cons (GOk.name (i := 5)) (GsOk.cons (GOk.name (i := 6)) GsOk.nil))))
      (SOk.ifS (TtOk.or (TtOk.test (TOk.op2 (opS 5) (opT TOk.cN) g_isNot)) (TtOk.not (TtOk.truth (opT (TOk.call (AgOk.cons (opS 6) (AgOk.cons (opT (TOk.tup (TaOk.cons TOk.cS (TaOk.cons (TOk.rd (i := 12)) TaOk.nil)))) AgOk.nil)))))))
      (SOk.ret TOk.cB)
      SOk.next)))
      (SOk.seq (SOk.asg (TOk.call (AgOk.cons (opT (TOk.call (AgOk.cons (opS 4) AgOk.nil))) AgOk.nil)) (GOk.tup (n := 2) (GsOk.cons (GOk.name (i := 5)) (GsOk.cons (GOk.name (i := 6)) GsOk.nil))))
      (SOk.ret (TOk.andV (TOk.op2 (opS 6) (opT TOk.cN) g_is) (TOk.call (AgOk.cons (opS 5) (AgOk.cons (opS 3) AgOk.nil))))))))))))))))))))), by decide⟩
end
end K00
end
section
set_option Elab.async false
set_option linter.all false
set_option maxRecDepth 100000
set_option maxHeartbeats 0
namespace K00
open PySem PySem.Spec PyProof.Rows L2 Mir
/-! ### the head -/
def es0 : List ErrD := [⟨"TooMany", ["what"], initSt (topS 2)⟩, ⟨"BadNet", ["what", "number"], initSt (topS 3)⟩, ⟨"BadLots", ["what", "row"], initSt (topS 4)⟩, ⟨"BadWant", ["what", "place"], initSt (topS 5)⟩, ⟨"BadOutage", ["row"], initSt (topS 6)⟩, ⟨"BadStanding", ["valve"], initSt (topS 7)⟩, ⟨"Unsafe", ["word"], initSt (topS 8)⟩, ⟨"BadTask", ["what"], initSt (topS 9)⟩, ⟨"BadAsk", ["ask"], initSt (topS 10)⟩, ⟨"BadPlan", ["bell"], initSt (topS 11)⟩, ⟨"BadLook", ["row"], initSt (topS 12)⟩, ⟨"BadCourse", ["act"], initSt (topS 13)⟩, ⟨"BadText", ["line"], initSt (topS 14)⟩, ⟨"BadDeed", ["what"], initSt (topS 15)⟩]
def fn0 : List He.DefD := [defD "line_words" (topS 18), defD "split_text" (topS 19), defD "scan_text" (topS 20), defD "_law_source" (topS 22), defD "_law_pick" (topS 23), defD "_law_same" (topS 24), defD "_law_fault" (topS 25), defD "_law_a_word" (topS 26), defD "_law_a_scan" (topS 27), defD "_law_a_foreign" (topS 28), defD "_law_a_wrong" (topS 29), defD "_law_a_lines" (topS 30), defD "law" (topS 31)]
def fa0 : List He.Fa := [.free "all", .free "bool", .free "dict", .free "int", .free "isinstance", .free "len", .free "list", .free "range", .free "str", .free "super", .free "tuple", .glo "line_words", .glo "split_text", .glo "scan_text", .glo "_law_source", .glo "_law_pick", .glo "_law_same", .glo "_law_fault", .glo "_law_a_word", .glo "_law_a_scan", .glo "_law_a_foreign", .glo "_law_a_wrong", .glo "_law_a_lines", .glo "law", .glo "BadAsk", .glo "BadCourse", .glo "BadDeed", .glo "BadLook", .glo "BadLots", .glo "BadNet", .glo "BadOutage", .glo "BadPlan", .glo "BadStanding", .glo "BadTask", .glo "BadText", .glo "BadWant", .glo "TooMany", .glo "Unsafe", .glo "WorksError", .str "SIGNS" v_SIGNS]
def ex0 (K : PySem.W.Frag) : Bool := ([codeB PySem.Challenge.pw_fourbells_k00_scanned_lines.main.file K "BadText", dflNone K "BadText", kitB et0 K "BadAsk" ans_BadAsk, kitB et0 K "BadCourse" ans_BadCourse, kitB et0 K "BadDeed" ans_BadDeed, kitB et0 K "BadLook" ans_BadLook, kitB et0 K "BadLots" ans_BadLots, kitB et0 K "BadNet" ans_BadNet, kitB et0 K "BadOutage" ans_BadOutage, kitB et0 K "BadPlan" ans_BadPlan, kitB et0 K "BadStanding" ans_BadStanding, kitB et0 K "BadTask" ans_BadTask, kitB et0 K "BadText" ans_BadText, kitB et0 K "BadWant" ans_BadWant, kitB et0 K "TooMany" ans_TooMany, kitB et0 K "Unsafe" ans_Unsafe, kitB et0 K "WorksError" ans_WorksError, exmB et0 K "WorksError" ans_WorksError] : List Bool).all id
theorem isErr_BadText : IsErr ⟨"BadText", ["line"], initSt (topS 14)⟩ false (PySem.Str.ofString "bad text") := ⟨⟨_, rfl, rfl⟩, fun qual dV kV doc pm ct an cda cc s us hl hd => by subst hd; match us, hl with | [_, _], _ => exact .of_eq rfl, rfl, rfl, by decide +kernel, rfl, by decide +kernel, rfl, rfl, by decide +kernel, ⟨_, _, _, _, _, _, ⟨_, _, rfl⟩, rfl, .inl ⟨_, _, _, _, _, rfl, rfl⟩⟩⟩
theorem txt_of {K : PySem.W.Frag} {h : Heap} {mg : Str → Option Value} (X : K.In h) (G : h.Ns mainGlobals mg) (c : SaysM fa0 fn0 ex0 es0 K) : Txt PySem.Challenge.pw_fourbells_k00_scanned_lines K mg := by
  have hb := c.b
  have hx : ([codeB PySem.Challenge.pw_fourbells_k00_scanned_lines.main.file K "BadText", dflNone K "BadText", kitB et0 K "BadAsk" ans_BadAsk, kitB et0 K "BadCourse" ans_BadCourse, kitB et0 K "BadDeed" ans_BadDeed, kitB et0 K "BadLook" ans_BadLook, kitB et0 K "BadLots" ans_BadLots, kitB et0 K "BadNet" ans_BadNet, kitB et0 K "BadOutage" ans_BadOutage, kitB et0 K "BadPlan" ans_BadPlan, kitB et0 K "BadStanding" ans_BadStanding, kitB et0 K "BadTask" ans_BadTask, kitB et0 K "BadText" ans_BadText, kitB et0 K "BadWant" ans_BadWant, kitB et0 K "TooMany" ans_TooMany, kitB et0 K "Unsafe" ans_Unsafe, kitB et0 K "WorksError" ans_WorksError, exmB et0 K "WorksError" ans_WorksError] : List Bool).all id = true := hb.1
  simp only [List.all_cons, List.all_nil, Bool.and_eq_true, id, and_true] at hx
  obtain ⟨x0, x1, x2, x3, x4, x5, x6, x7, x8, x9, x10, x11, x12, x13, x14, x15, x16, x17⟩ := hx
  exact ⟨lk_of (c.d.def_ 0 rfl) (He.glo_ok X G (c.d.fact 11 rfl)) fun _ _ _ _ _ _ us hl => match us, hl with | [_], _ => rfl,
    lk_of (c.d.def_ 1 rfl) (He.glo_ok X G (c.d.fact 12 rfl)) fun _ _ _ _ _ _ us hl => match us, hl with | [_], _ => rfl,
    lk_of (c.d.def_ 2 rfl) (He.glo_ok X G (c.d.fact 13 rfl)) fun _ _ _ _ _ _ us hl => match us, hl with | [_], _ => rfl,
    lk_of (c.d.def_ 3 rfl) (He.glo_ok X G (c.d.fact 14 rfl)) fun _ _ _ _ _ _ us hl => match us, hl with | [_, _], _ => rfl,
    lk_of (c.d.def_ 4 rfl) (He.glo_ok X G (c.d.fact 15 rfl)) fun _ _ _ _ _ _ us hl => match us, hl with | [_, _], _ => rfl,
    lk_of (c.d.def_ 5 rfl) (He.glo_ok X G (c.d.fact 16 rfl)) fun _ _ _ _ _ _ us hl => match us, hl with | [_, _], _ => rfl,
    lk_of (c.d.def_ 6 rfl) (He.glo_ok X G (c.d.fact 17 rfl)) fun _ _ _ _ _ _ us hl => match us, hl with | [_], _ => rfl,
    lk_of (c.d.def_ 7 rfl) (He.glo_ok X G (c.d.fact 18 rfl)) fun _ _ _ _ _ _ us hl => match us, hl with | [_], _ => rfl,
    lk_of (c.d.def_ 8 rfl) (He.glo_ok X G (c.d.fact 19 rfl)) fun _ _ _ _ _ _ us hl => match us, hl with | [_], _ => rfl,
    lk_of (c.d.def_ 9 rfl) (He.glo_ok X G (c.d.fact 20 rfl)) fun _ _ _ _ _ _ us hl => match us, hl with | [_], _ => rfl,
    lk_of (c.d.def_ 10 rfl) (He.glo_ok X G (c.d.fact 21 rfl)) fun _ _ _ _ _ _ us hl => match us, hl with | [_, _, _], _ => rfl,
    lk_of (c.d.def_ 11 rfl) (He.glo_ok X G (c.d.fact 22 rfl)) fun _ _ _ _ _ _ us hl => match us, hl with | [_], _ => rfl,
    lk_of (c.d.def_ 12 rfl) (He.glo_ok X G (c.d.fact 23 rfl)) fun _ _ _ _ _ _ us hl => match us, hl with | [_], _ => rfl,
    (He.free_ok X G (c.d.fact 0 rfl)),
    (He.free_ok X G (c.d.fact 1 rfl)),
    (He.free_ok X G (c.d.fact 2 rfl)),
    (He.free_ok X G (c.d.fact 3 rfl)),
    (He.free_ok X G (c.d.fact 4 rfl)),
    (He.free_ok X G (c.d.fact 5 rfl)),
    (He.free_ok X G (c.d.fact 6 rfl)),
    (He.free_ok X G (c.d.fact 7 rfl)),
    (He.free_ok X G (c.d.fact 8 rfl)),
    (He.free_ok X G (c.d.fact 10 rfl)),
    He.str_ok X G (c.d.fact 39 rfl),
    etxt_of rfl hb.2,
    errTxt_of (e := ⟨"BadText", ["line"], initSt (topS 14)⟩) (hb.2 _ (List.mem_of_getElem? (i := 12) rfl)) x0 x1 (c.i _ (List.mem_of_getElem? (i := 12) rfl)) isErr_BadText (He.glo_ok X G (c.d.fact 34 rfl)) (He.free_ok X G (c.d.fact 9 rfl)) rfl,
    (He.glo_ok X G (c.d.fact 24 rfl)),
    (He.glo_ok X G (c.d.fact 25 rfl)),
    (He.glo_ok X G (c.d.fact 26 rfl)),
    (He.glo_ok X G (c.d.fact 27 rfl)),
    (He.glo_ok X G (c.d.fact 28 rfl)),
    (He.glo_ok X G (c.d.fact 29 rfl)),
    (He.glo_ok X G (c.d.fact 30 rfl)),
    (He.glo_ok X G (c.d.fact 31 rfl)),
    (He.glo_ok X G (c.d.fact 32 rfl)),
    (He.glo_ok X G (c.d.fact 33 rfl)),
    (He.glo_ok X G (c.d.fact 34 rfl)),
    (He.glo_ok X G (c.d.fact 35 rfl)),
    (He.glo_ok X G (c.d.fact 36 rfl)),
    (He.glo_ok X G (c.d.fact 37 rfl)),
    (He.glo_ok X G (c.d.fact 38 rfl)),
    kitB_ok x2,
    kitB_ok x3,
    kitB_ok x4,
    kitB_ok x5,
    kitB_ok x6,
    kitB_ok x7,
    kitB_ok x8,
    kitB_ok x9,
    kitB_ok x10,
    kitB_ok x11,
    kitB_ok x12,
    kitB_ok x13,
    kitB_ok x14,
    kitB_ok x15,
    kitB_ok x16,
    exmB_ok x17⟩
abbrev R0 : PySem.W.OpenRow := PySem.W.OpenLaw.row PySem.Challenge.rw_fourbells_k00_scanned_lines
abbrev hk : PySem.W.Hook := hookM 7 fa0 fn0 ex0 es0
def ob (s : PySem.W.SharedT) : AlM := obsMG 7 fa0 fn0 ex0 es0 (HandSHeadRun.getT s)
theorem ob_eq (s : PySem.W.SharedT) : ob s = hk.obs s.abs := obsMG_eq (HandSHeadRun.getT_eq s)
end K00
end
section
set_option Elab.async false
set_option linter.all false
set_option maxRecDepth 100000
set_option maxHeartbeats 0
namespace K00
open PySem PySem.Spec PyProof.Rows L2 Mir
def loose0 : List Str := ["WorksError", "TooMany", "BadNet", "BadLots", "BadWant", "BadOutage", "BadStanding", "Unsafe", "BadTask", "BadAsk", "BadPlan", "BadLook", "BadCourse", "BadText", "BadDeed", "SIGNS", "line_words", "split_text", "scan_text", "_law_source", "_law_pick", "_law_same", "_law_fault", "_law_a_word", "_law_a_scan", "_law_a_foreign", "_law_a_wrong", "_law_a_lines"]
def looseA : List Str := loose0
set_option maxHeartbeats 0 in
theorem run (w : World) : HandSHeadRun.RunEq R0 (PySem.W.view R0.prog [31]) hk ob 6000 looseA w := by
  intro os
  kernel_rfl
end K00
end
section
set_option Elab.async false
set_option linter.all false
set_option maxRecDepth 100000
set_option maxHeartbeats 4000000
namespace K00
open PySem PySem.Spec PyProof.Rows L2 Mir
/-! ### the source of numbers -/
abbrev S4 (a b c d : Int) : D := .lst true [.int a, .int b, .int c, .int d]
def IsS (s : D) : Prop := ∃ a b c d, s = S4 a b c d
theorem oIx_lit {o : Bool} {a b c d : D} : oIx (.lst o [a, b, c, d]) (.int 0) = some (fz a, .lst o [fz a, b, c, d], .int 0) ∧ oIx (.lst o [a, b, c, d]) (.int 1) = some (fz b, .lst o [a, fz b, c, d], .int 1) ∧
    oIx (.lst o [a, b, c, d]) (.int 2) = some (fz c, .lst o [a, b, fz c, d], .int 2) ∧ oIx (.lst o [a, b, c, d]) (.int 3) = some (fz d, .lst o [a, b, c, fz d], .int 3) := ⟨rfl, rfl, rfl, rfl⟩
@[simp] theorem ixN40 : ixN 4 0 = some 0 := rfl
@[simp] theorem ixN41 : ixN 4 1 = some 1 := rfl
@[simp] theorem ixN42 : ixN 4 2 = some 2 := rfl
@[simp] theorem ixN43 : ixN 4 3 = some 3 := rfl
theorem pick_small {a b c d many : Int} (hm : many ≤ 1) : m__law_pick [S4 a b c d, .int many] = .ok (.int 0) [S4 a b c d, .non] := by
  simp [m__law_pick, defF, Mir.envOf, g__law_pick, hm, finF, outsOf]
theorem pick_own {a b c d many : Int} (hm : ¬ many ≤ 1) (ha : 0 < a) (hl : many.natAbs.log2 < 9000) : m__law_pick [S4 a b c d, .int many] = .ok (.int (a % many)) [S4 (a / many) b c d, .non] := by
  have h0 : 0 < many := by omega
  simp [m__law_pick, defF, Mir.envOf, g__law_pick, hm, finF, outsOf, oIx_lit, ha, oMod_ii h0, oDiv_ii h0 hl]
theorem pick_else {a b c d many : Int} (hm : ¬ many ≤ 1) (ha : ¬ 0 < a) (hl : many.natAbs.log2 < 9000) : ∃ r b' c' d', m__law_pick [S4 a b c d, .int many] = .ok (.int (r % many)) [S4 a b' c' d', .non] := by
  have h0 : 0 < many := by omega
  have m1 : ∀ i, oMul (.int i) (.int 48271) = some (.int (i * 48271), .int i, .int 48271) := fun i => oMul_ii (by simp [mulB])
  have m2 : ∀ i, oMul (.int i) (.int 69621) = some (.int (i * 69621), .int i, .int 69621) := fun i => oMul_ii (by simp [mulB])
  have m3 : ∀ i, oMul (.int i) (.int 7) = some (.int (i * 7), .int i, .int 7) := fun i => oMul_ii (by simp [mulB])
  have n1 : ∀ i, oMod (.int i) (.int 2147483647) = some (.int (i % 2147483647), .int i, .int 2147483647) := fun i => oMod_ii (by decide)
  have n2 : ∀ i, oMod (.int i) (.int 2147483629) = some (.int (i % 2147483629), .int i, .int 2147483629) := fun i => oMod_ii (by decide)
  have n3 : ∀ i, oDiv (.int i) (.int 5) = some (.int (i / 5), .int i, .int 5) := fun i => oDiv_ii (by decide) (by decide)
  have n4 : ∀ i, oDiv (.int i) (.int 3) = some (.int (i / 3), .int i, .int 3) := fun i => oDiv_ii (by decide) (by decide)
  have key : ∃ (z : Int × Int × Int × Int), m__law_pick [S4 a b c d, .int many] = .ok (.int (z.1 % many)) [S4 a z.2.1 z.2.2.1 z.2.2.2, .non] := by
    simp [m__law_pick, defF, Mir.envOf, g__law_pick, hm, finF, outsOf, oIx_lit, ha, m1, m2, m3, n1, n2, n3, n4, oMod_ii h0]
    exact ⟨_, rfl⟩
  obtain ⟨z, e⟩ := key
  exact ⟨_, _, _, _, e⟩
theorem log_small {many : Int} (h : many < 2 ^ 60) (h0 : 0 ≤ many) : many.natAbs.log2 < 9000 := by
  by_cases z : many.natAbs = 0
  · rw [z]; decide
  · rw [Nat.log2_lt z]
    refine Nat.lt_of_lt_of_le (m := 2 ^ 60) ?_ (Nat.pow_le_pow_right (by decide) (by decide))
    omega
theorem pick_ok {s : D} (hs : IsS s) {many : Int} (h1 : 1 ≤ many) (h2 : many < 2 ^ 60) : ∃ r s', IsS s' ∧ 0 ≤ r ∧ r < many ∧ m__law_pick [s, .int many] = .ok (.int r) [s', .non] := by
  obtain ⟨a, b, c, d, rfl⟩ := hs
  by_cases hm : many ≤ 1
  · exact ⟨0, _, ⟨_, _, _, _, rfl⟩, by omega, by omega, pick_small hm⟩
  · have hl := log_small h2 (by omega)
    by_cases ha : 0 < a
    · exact ⟨_, _, ⟨_, _, _, _, rfl⟩, Int.emod_nonneg _ (by omega), Int.emod_lt_of_pos _ (by omega), pick_own hm ha hl⟩
    · obtain ⟨r, b', c', d', e⟩ := pick_else hm ha hl (b := b) (c := c) (d := d)
      exact ⟨_, _, ⟨_, _, _, _, rfl⟩, Int.emod_nonneg _ (by omega), Int.emod_lt_of_pos _ (by omega), e⟩
theorem isS_isx {s : D} (h : IsS s) : isx s = false := by obtain ⟨a, b, c, d, rfl⟩ := h; rfl
/-! ### words -/
def cl (x : Str) : List Nat := x.cps.toList
def sgs : List Nat := cl v_SIGNS
theorem sgs_len : sgs.length = 40 := by decide +kernel
theorem sgs_lt : ∀ c ∈ sgs, c < 128 ∧ c ≠ 32 ∧ c ≠ 10 := by decide +kernel
def WordOk (w : Str) : Prop := cl w ≠ [] ∧ ∀ c ∈ cl w, c ∈ sgs
theorem cl_len (x : Str) : (cl x).length = x.length := by simp [cl, Str.length]
theorem str_ext {a b : Str} (h : cl a = cl b) : a = b := by
  obtain ⟨⟨a⟩⟩ := a
  obtain ⟨⟨b⟩⟩ := b
  simp [cl] at h
  rw [h]
theorem cpOk_of {x : Str} (h : ∀ c ∈ cl x, c < 1114112) : cpOk x = true := by
  unfold cpOk
  rw [← Array.all_toList, List.all_eq_true]
  exact fun c hc => decide_eq_true (h c hc)
theorem WordOk.cp {w : Str} (h : WordOk w) : cpOk w = true := cpOk_of fun c hc => by have := (sgs_lt c (h.2 c hc)).1; omega
theorem join_empty_chars (l : List Nat) : cl (Txt.join ⟨#[]⟩ (l.map fun c => (⟨#[c]⟩ : Str))) = l := by
  show cl (Builtin.Str.glued _ _) = l
  rw [StrLaws.glued_eq_join]
  induction l with
  | nil => rfl
  | cons c l ih =>
    cases l with
    | nil => rfl
    | cons d l =>
      show cl ((⟨#[c]⟩ : Str) ++ ⟨#[]⟩ ++ Str.join ⟨#[]⟩ ((d :: l).map fun c => (⟨#[c]⟩ : Str))) = _
      have : cl ((⟨#[c]⟩ : Str) ++ ⟨#[]⟩ ++ Str.join ⟨#[]⟩ ((d :: l).map fun c => (⟨#[c]⟩ : Str))) = [c] ++ cl (Str.join ⟨#[]⟩ ((d :: l).map fun c => (⟨#[c]⟩ : Str))) := by
        simp [cl, Str.cps_append]
      rw [this, ih]
      rfl
theorem strsOf_map (ys : List Str) : strsOf (ys.map D.str) = some ys := by
  induction ys with
  | nil => rfl
  | cons y ys ih => simp [strsOf, ih]
end K00
namespace K00
open PySem PySem.Spec PyProof.Rows L2 Mir
theorem oJoin_ok {x : Str} {o : Bool} {ys : List Str} (h : (ys.map (·.length)).sum + ys.length * x.length ≤ 16777216) : oJoin (.str x) (.lst o (ys.map D.str)) = some (.str (Txt.join x ys), .str x, .lst o (ys.map D.str)) := by
  show (match strsOf (ys.map D.str) with
    | some ys' => if (ys'.map fun z : Str => z.length).sum + ys'.length * x.length ≤ 16777216 then some (D.str (Txt.join x ys'), D.str x, D.lst o (ys.map D.str)) else none
    | none => none) = _
  rw [strsOf_map]
  simp only [h, if_true]
/-! ### a word is made -/
theorem SL_split (l : List Int) : True := trivial
theorem atI_lt {l : List Nat} {i : Int} (h0 : 0 ≤ i) (h1 : i < l.length) : ∃ c, atI l i = some c ∧ c ∈ l := by
  have hk : ixN l.length i = some i.toNat := by unfold ixN; rw [if_pos h0, if_pos h1]
  have hlt : i.toNat < l.length := by omega
  refine ⟨l[i.toNat], ?_, List.getElem_mem hlt⟩
  unfold atI
  rw [hk]
  exact List.getElem?_eq_getElem hlt
theorem oIx_str {x : Str} {i : Int} {c : Nat} (hz : x.length ≤ sizeLine) (h : atI (cl x) i = some c) : oIx (.str x) (.int i) = some (.str ⟨#[c]⟩, .str x, .int i) := by
  unfold oIx
  have h' : atI x.cps.toList i = some c := h
  simp only [hz, if_true]
  rw [h']
theorem inR_of {j : Int} (h0 : 0 ≤ j) (h1 : j < 2 ^ 60) : Mir.inR j = true := by
  unfold Mir.inR
  simp only [Bool.and_eq_true, decide_eq_true_eq]
  omega
theorem word_of {ys : List D} (h : ∀ y ∈ ys, ∃ c ∈ sgs, y = .str ⟨#[c]⟩) : ∃ l : List Nat, (∀ c ∈ l, c ∈ sgs) ∧ ys = (l.map fun c => (⟨#[c]⟩ : Str)).map D.str ∧ l.length = ys.length := by
  induction ys with
  | nil => exact ⟨[], (fun c hc => by cases hc), rfl, rfl⟩
  | cons y ys ih =>
    obtain ⟨l, h1, h2, h3⟩ := ih fun y hy => h y (List.mem_cons_of_mem _ hy)
    obtain ⟨c, hc, e⟩ := h y List.mem_cons_self
    exact ⟨c :: l, (fun d hd => by rcases List.mem_cons.mp hd with z | z; (rw [z]; exact hc); exact h1 d z), by rw [e, h2]; rfl, by rw [List.length_cons, List.length_cons, h3]⟩
theorem sum_ones (l : List Nat) : ((l.map fun c => (⟨#[c]⟩ : Str)).map (·.length)).sum = l.length := by
  induction l with
  | nil => rfl
  | cons c l ih =>
    simp only [List.map_cons, List.sum_cons, List.length_cons, ih]
    have : (⟨#[c]⟩ : Str).length = 1 := rfl
    omega
theorem sg_lit : (PySem.Str.ofString "abcdefghijklmnopqrstuvwxyz0123456789,:>-") = v_SIGNS := rfl
theorem sizeL : sizeLine = 16777216 := rfl
/-- the tail of it: size signs -/
theorem word_tail {s : D} (hs : IsS s) {n : Int} (h1 : 1 ≤ n) (h2 : n ≤ 60) :
    ∃ w s', WordOk w ∧ w.length ≤ 60 ∧ IsS s' ∧ ∃ ρ', retM (evM1 (pure (.str (PySem.Str.ofString ""))) (.tmp (lcR1 [3] (consM (mvv 2) (pure [])) (stv 3) (pure true) (ev2 (.slot 1) (.tmp (callM m__law_pick [.slot 0, .tmp (pure (.int 40))])) oIx))) oJoin) [some s, some (.str v_SIGNS), some (.int n), none] = .ok (.rt (.str w)) (some s' :: ρ') := by
  obtain ⟨ys, ρ2, e, ⟨s', hs', eρ⟩, hF⟩ := compM_run (vs := [3]) (tg := stv 3) (elt := ev2 (.slot 1) (.tmp (callM m__law_pick [.slot 0, .tmp (pure (.int 40))])) oIx) (I := fun ρ => ∃ s, IsS s ∧ ρ = [some s, some (.str v_SIGNS), none, none])
    (P := fun _ y => ∃ c ∈ sgs, y = .str ⟨#[c]⟩) (fun ρ ⟨s, _, e⟩ => by subst e; rfl) (rangeD 0 n.toNat) [] [some s, some (.str v_SIGNS), none, none] (fun d hd ρ ⟨s, hs, e⟩ => by
      subst e
      obtain ⟨r, s', hs', r0, r1, ep⟩ := pick_ok hs (many := 40) (by omega) (by omega)
      obtain ⟨c, ec, hc⟩ := atI_lt (l := sgs) r0 (by rw [sgs_len]; exact r1)
      have hx := isS_isx hs'
      unfold rangeD at hd
      obtain ⟨k, _, rfl⟩ := List.mem_map.mp hd
      refine ⟨[some s, some (.str v_SIGNS), none, some (.int (0 + (k : Int)))], .str ⟨#[c]⟩, [some s', some (.str v_SIGNS), none, some (.int (0 + (k : Int)))], by simp, ?_, ⟨c, hc, rfl⟩, ⟨s', hs', rfl⟩⟩
      have ei := oIx_str (x := v_SIGNS) (i := r) (by decide +kernel) ec
      simp [ep, ei, noX_app, hx]) ⟨s, hs, rfl⟩ (by rw [rangeD_len, sizeL]; simp; omega)
  subst eρ
  obtain ⟨l, l1, l2, l3⟩ := word_of (forall2_right hF)
  have hl : l.length = n.toNat := by rw [l3, ← forall2_len hF, rangeD_len]
  refine ⟨Txt.join ⟨#[]⟩ (l.map fun c => (⟨#[c]⟩ : Str)), s', ⟨?_, ?_⟩, ?_, hs', [some (.str v_SIGNS), none, none], ?_⟩
  · rw [join_empty_chars]
    intro z
    rw [z] at hl
    simp at hl
    omega
  · rw [join_empty_chars]; exact l1
  · rw [← cl_len, join_empty_chars, hl]; omega
  · have hi : Mir.inR n = true := inR_of (by omega) (by omega)
    rw [List.nil_append] at e
    have ej : oJoin (.str (PySem.Str.ofString "")) (.lst true ys) = some (.str (Txt.join ⟨#[]⟩ (l.map fun c => (⟨#[c]⟩ : Str))), .str (PySem.Str.ofString ""), .lst true ys) := by
      rw [l2]
      refine oJoin_ok ?_
      rw [sum_ones]
      have : (PySem.Str.ofString "").length = 0 := rfl
      rw [this]
      omega
    rw [retM_app, evM1_pt]
    simp [hi, wipeD, e, ej]
end K00
namespace K00
open PySem PySem.Spec PyProof.Rows L2 Mir
theorem word_ok {s : D} (hs : IsS s) : ∃ w s', WordOk w ∧ w.length ≤ 60 ∧ IsS s' ∧ m__law_a_word [s] = .ok (.str w) [s'] := by
  obtain ⟨r1, s1, hs1, a1, b1, e1⟩ := pick_ok hs (many := 12) (by omega) (by omega)
  have x1 := isS_isx hs1
  have key : ∃ n s2, IsS s2 ∧ 1 ≤ n ∧ n ≤ 60 ∧ asgM (ifV (asB (ev2 (.tmp (callM m__law_pick [.slot 0, .tmp (pure (.int 12))])) (.tmp (pure (.int 0))) oEq)) (pure (.int 60)) (ev2 (.tmp (pure (.int 1))) (.tmp (callM m__law_pick [.slot 0, .tmp (pure (.int 8))])) oPlus)) (stv 2)
      [some s, some (.str v_SIGNS), none, none] = .ok .nx [some s2, some (.str v_SIGNS), some (.int n), none] := by
    by_cases h : r1 = 0
    · subst h
      exact ⟨60, s1, hs1, by omega, by omega, by simp [e1, x1]⟩
    · obtain ⟨r2, s2, hs2, a2, b2, e2⟩ := pick_ok hs1 (many := 8) (by omega) (by omega)
      have x2 := isS_isx hs2
      exact ⟨1 + r2, s2, hs2, by omega, by omega, by simp [e1, x1, h, e2, x2]⟩
  obtain ⟨n, s2, hs2, n1, n2, e⟩ := key
  obtain ⟨w, s', hw, hl, hs', ρ', et⟩ := word_tail hs2 n1 n2
  refine ⟨w, s', hw, hl, hs', def_rt (ρ' := some s' :: ρ') ?_ (by simp [outsOf]) rfl (by simp [isS_isx hs])⟩
  refine seq_step (ρ1 := [some s, some (.str v_SIGNS), none, none]) (by simp [Mir.envOf, sg_lit]) ?_
  exact seq_step e et
/-! ### rows of words, lines -/
def RowOk (row : List Str) : Prop := row ≠ [] ∧ row.length ≤ 6 ∧ ∀ w ∈ row, WordOk w ∧ w.length ≤ 60
abbrev rowD (o : Bool) (row : List Str) : D := .lst o (row.map D.str)
theorem strs_of {ys : List D} {P : Str → Prop} (h : ∀ y ∈ ys, ∃ w, P w ∧ y = .str w) : ∃ l : List Str, (∀ w ∈ l, P w) ∧ ys = l.map D.str := by
  induction ys with
  | nil => exact ⟨[], (fun c hc => by cases hc), rfl⟩
  | cons y ys ih =>
    obtain ⟨l, h1, h2⟩ := ih fun y hy => h y (List.mem_cons_of_mem _ hy)
    obtain ⟨w, hw, e⟩ := h y List.mem_cons_self
    exact ⟨w :: l, (fun d hd => by rcases List.mem_cons.mp hd with z | z; (rw [z]; exact hw); exact h1 d z), by rw [e, h2]; rfl⟩
theorem rows_of {ys : List D} (h : ∀ y ∈ ys, ∃ row, RowOk row ∧ y = rowD true row) : ∃ l : List (List Str), (∀ w ∈ l, RowOk w) ∧ ys = l.map (rowD true) := by
  induction ys with
  | nil => exact ⟨[], (fun c hc => by cases hc), rfl⟩
  | cons y ys ih =>
    obtain ⟨l, h1, h2⟩ := ih fun y hy => h y (List.mem_cons_of_mem _ hy)
    obtain ⟨w, hw, e⟩ := h y List.mem_cons_self
    exact ⟨w :: l, (fun d hd => by rcases List.mem_cons.mp hd with z | z; (rw [z]; exact hw); exact h1 d z), by rw [e, h2]; rfl⟩
/-- [_law_a_word(s) for j in range(1 + _law_pick(s, 6))], in the law's slots -/
theorem row_made {s many : D} (hs : IsS s) {k : Option D} (a3 a4 a5 a6 a7 a8 a9 a10 a11 a12 : Option D) (j : Option D) (r : Option D) :
    ∃ row s', RowOk row ∧ IsS s' ∧ lcR1 [14] (consM (ev2 (.tmp (pure (.int 1))) (.tmp (callM m__law_pick [.slot 1, .tmp (pure (.int 6))])) oPlus) (pure [])) (stv 14) (pure true) (callM m__law_a_word [.slot 1])
      [none, some s, some many, a3, a4, a5, a6, a7, a8, a9, a10, a11, a12, k, j, r] = .ok (rowD true row) [none, some s', some many, a3, a4, a5, a6, a7, a8, a9, a10, a11, a12, k, none, r] := by
  obtain ⟨n, s1, hs1, n0, n1, e1⟩ := pick_ok hs (many := 6) (by omega) (by omega)
  have x1 := isS_isx hs1
  obtain ⟨ys, ρ2, e, ⟨s', hs', eρ⟩, hF⟩ := compM_run (vs := [14]) (tg := stv 14) (elt := callM m__law_a_word [.slot 1]) (I := fun ρ => ∃ s, IsS s ∧ ρ = [none, some s, some many, a3, a4, a5, a6, a7, a8, a9, a10, a11, a12, k, none, r])
    (P := fun _ y => ∃ w, (WordOk w ∧ w.length ≤ 60) ∧ y = .str w) (fun ρ ⟨s, _, e⟩ => by subst e; rfl) (rangeD 0 (1 + n).toNat) [] [none, some s1, some many, a3, a4, a5, a6, a7, a8, a9, a10, a11, a12, k, none, r] (fun d hd ρ ⟨s, hs, e⟩ => by
      subst e
      obtain ⟨w, s', hw, hl, hs', ew⟩ := word_ok hs
      unfold rangeD at hd
      obtain ⟨i, _, rfl⟩ := List.mem_map.mp hd
      refine ⟨[none, some s, some many, a3, a4, a5, a6, a7, a8, a9, a10, a11, a12, k, some (.int (0 + (i : Int))), r], .str w, [none, some s', some many, a3, a4, a5, a6, a7, a8, a9, a10, a11, a12, k, some (.int (0 + (i : Int))), r], by simp, ?_, ⟨w, ⟨hw, hl⟩, rfl⟩, ⟨s', hs', rfl⟩⟩
      simp [ew, isS_isx hs']) ⟨s1, hs1, rfl⟩ (by rw [rangeD_len, sizeL]; simp; omega)
  subst eρ
  obtain ⟨row, h1, h2⟩ := strs_of (forall2_right hF)
  have hl : row.length = (1 + n).toNat := by rw [← rangeD_len (lo := 0) (n := (1 + n).toNat), forall2_len hF, h2, List.length_map]
  refine ⟨row, s', ⟨?_, by omega, h1⟩, hs', ?_⟩
  · intro z
    rw [z] at hl
    simp at hl
    omega
  · rw [List.nil_append] at e
    have hi : Mir.inR (1 + n) = true := inR_of (by omega) (by omega)
    simp [e1, x1, hi, wipeD, e, h2]
end K00
namespace K00
open PySem PySem.Spec PyProof.Rows L2 Mir
abbrev rowsD (o o' : Bool) (rows : List (List Str)) : D := .lst o (rows.map (rowD o'))
theorem fzL_strs (row : List Str) : fzL (row.map D.str) = row.map D.str := by
  rw [fzL_map, List.map_map]
  rfl
theorem fz_row {o : Bool} {row : List Str} : fz (rowD o row) = rowD false row := by rw [fz_lst, fzL_strs]
theorem fzL_rows {o : Bool} {rows : List (List Str)} : fzL (rows.map (rowD o)) = rows.map (rowD false) := by
  rw [fzL_map, List.map_map]
  refine List.map_congr_left fun r _ => ?_
  exact fz_row
theorem rows_made {s : D} (hs : IsS s) {m : Int} (m1 : 1 ≤ m) (m2 : m ≤ 60) : ∃ rows s', (rows.length : Int) = m ∧ (∀ row ∈ rows, RowOk row) ∧ IsS s' ∧
    asgM (lcR1 [13] (consM (rdv 2) (pure [])) (stv 13) (pure true) (lcR1 [14] (consM (ev2 (.tmp (pure (.int 1))) (.tmp (callM m__law_pick [.slot 1, .tmp (pure (.int 6))])) oPlus) (pure [])) (stv 14) (pure true) (callM m__law_a_word [.slot 1]))) (stv 3)
      [none, some s, some (.int m), none, none, none, none, none, none, none, none, none, none, none, none, none] = .ok .nx [none, some s', some (.int m), some (rowsD true true rows), none, none, none, none, none, none, none, none, none, none, none, none] := by
  obtain ⟨ys, ρ2, e, ⟨s', hs', eρ⟩, hF⟩ := compM_run (vs := [13]) (tg := stv 13) (elt := lcR1 [14] (consM (ev2 (.tmp (pure (.int 1))) (.tmp (callM m__law_pick [.slot 1, .tmp (pure (.int 6))])) oPlus) (pure [])) (stv 14) (pure true) (callM m__law_a_word [.slot 1]))
    (I := fun ρ => ∃ s, IsS s ∧ ρ = [none, some s, some (.int m), none, none, none, none, none, none, none, none, none, none, none, none, none])
    (P := fun _ y => ∃ row, RowOk row ∧ y = rowD true row) (fun ρ ⟨s, _, e⟩ => by subst e; rfl) (rangeD 0 m.toNat) [] [none, some s, some (.int m), none, none, none, none, none, none, none, none, none, none, none, none, none] (fun d hd ρ ⟨s, hs, e⟩ => by
      subst e
      unfold rangeD at hd
      obtain ⟨i, _, rfl⟩ := List.mem_map.mp hd
      obtain ⟨row, s', hr, hs', er⟩ := row_made hs (many := .int m) (k := some (.int (0 + (i : Int)))) none none none none none none none none none none none none
      exact ⟨_, rowD true row, _, by simp, er, ⟨row, hr, rfl⟩, ⟨s', hs', rfl⟩⟩) ⟨s, hs, rfl⟩ (by rw [rangeD_len, sizeL]; simp; omega)
  subst eρ
  obtain ⟨rows, h1, h2⟩ := rows_of (forall2_right hF)
  have hl : rows.length = m.toNat := by rw [← rangeD_len (lo := 0) (n := m.toNat), forall2_len hF, h2, List.length_map]
  refine ⟨rows, s', by omega, h1, hs', ?_⟩
  rw [List.nil_append] at e
  have hi : Mir.inR m = true := inR_of (by omega) (by omega)
  rw [asgM_app, lcR1_app]
  have e0 : consM (rdv 2) (pure []) [none, some s, some (.int m), none, none, none, none, none, none, none, none, none, none, none, none, none] = .ok [.int m] [none, some s, some (.int m), none, none, none, none, none, none, none, none, none, none, none, none, none] := by simp
  rw [e0]
  simp only [bnd_ok, hi, if_true, lcR_app]
  have ew : wipeD [none, some s, some (.int m), none, none, none, none, none, none, none, none, none, none, none, none, none] [13] = [none, some s, some (.int m), none, none, none, none, none, none, none, none, none, none, none, none, none] := rfl
  rw [ew, e]
  simp [h2]
/-! ### lines -/
abbrev sp : Str := PySem.Str.ofString " "
abbrev lineOf (row : List Str) : Str := Txt.join sp row
theorem sum_le {ws : List Str} {B : Nat} (h : ∀ w ∈ ws, w.length ≤ B) : (ws.map (·.length)).sum ≤ ws.length * B := by
  induction ws with
  | nil => simp
  | cons w ws ih =>
    have h1 := h w List.mem_cons_self
    have h2 := ih fun w hw => h w (List.mem_cons_of_mem _ hw)
    simp only [List.map_cons, List.sum_cons, List.length_cons]
    rw [Nat.add_mul]
    omega
theorem join_len {x : Str} {ws : List Str} {B n : Nat} (h : ∀ w ∈ ws, w.length ≤ B) (hn : ws.length ≤ n) : (Txt.join x ws).length ≤ n * B + n * x.length := by
  have h1 := StrLaws.join_length_le x ws
  have h2 := sum_le h
  have e : Txt.join x ws = Str.join x ws := StrLaws.glued_eq_join x ws
  rw [e]
  have h3 : ws.length * B ≤ n * B := Nat.mul_le_mul_right _ hn
  have h4 : ws.length * x.length ≤ n * x.length := Nat.mul_le_mul_right _ hn
  omega
theorem line_len {row : List Str} (h : RowOk row) : (lineOf row).length ≤ 366 := by
  have := join_len (x := sp) (ws := row) (B := 60) (n := 6) (fun w hw => (h.2.2 w hw).2) h.2.1
  have e : sp.length = 1 := rfl
  rw [e] at this
  omega
theorem line_join {o : Bool} {row : List Str} (h : RowOk row) : oJoin (.str sp) (rowD o row) = some (.str (lineOf row), .str sp, rowD o row) := by
  refine oJoin_ok ?_
  have h1 := sum_le (B := 60) fun w hw => (h.2.2 w hw).2
  have e : sp.length = 1 := rfl
  have h2 := h.2.1
  rw [e]
  omega
theorem lines_made {s : D} {m : Int} {rows : List (List Str)} (hr : ∀ row ∈ rows, RowOk row) (hn : rows.length ≤ 60) :
    asgM (lcL [15] (rdv 3) (stv 15) (pure true) (evM1 (pure (.str (PySem.Str.ofString " "))) (.slot 15) oJoin)) (stv 4)
      [none, some s, some (.int m), some (rowsD true true rows), none, none, none, none, none, none, none, none, none, none, none, none] =
      .ok .nx [none, some s, some (.int m), some (rowsD false false rows), some (rowD true (rows.map lineOf)), none, none, none, none, none, none, none, none, none, none, none] := by
  obtain ⟨ys, ρ2, e, eρ, hF⟩ := compM_run (vs := [15]) (tg := stv 15) (elt := evM1 (pure (.str (PySem.Str.ofString " "))) (.slot 15) oJoin) (I := fun ρ => ρ = [none, some s, some (.int m), some (rowsD false false rows), none, none, none, none, none, none, none, none, none, none, none, none])
    (P := fun d y => ∀ row, RowOk row → d = rowD false row → y = .str (lineOf row)) (fun ρ e => by subst e; rfl) (rows.map (rowD false)) [] [none, some s, some (.int m), some (rowsD false false rows), none, none, none, none, none, none, none, none, none, none, none, none] (fun d hd ρ e => by
      subst e
      obtain ⟨row, hm, rfl⟩ := List.mem_map.mp hd
      have ej := line_join (o := false) (hr row hm)
      refine ⟨[none, some s, some (.int m), some (rowsD false false rows), none, none, none, none, none, none, none, none, none, none, none, some (rowD false row)], .str (lineOf row), [none, some s, some (.int m), some (rowsD false false rows), none, none, none, none, none, none, none, none, none, none, none, some (rowD false row)], by simp, ?_, fun row' _ e => ?_, rfl⟩
      · simp [ej]
      · have e2 : row.map D.str = row'.map D.str := by injection e
        have inj : ∀ {a b : List Str}, a.map D.str = b.map D.str → a = b := by
          intro a
          induction a with
          | nil => intro b h; cases b with
            | nil => rfl
            | cons _ _ => cases h
          | cons x a ih => intro b h; cases b with
            | nil => cases h
            | cons y b => simp only [List.map_cons, List.cons.injEq, D.str.injEq] at h; rw [h.1, ih h.2]
        rw [inj e2]) rfl (by rw [List.length_map, sizeL]; simp; omega)
  subst eρ
  have hy : ys = (rows.map lineOf).map D.str := by
    have key : ∀ {rs : List (List Str)} {ys : List D}, (∀ row ∈ rs, RowOk row) → All2 (fun d y => ∀ row, RowOk row → d = rowD false row → y = .str (lineOf row)) (rs.map (rowD false)) ys → ys = (rs.map lineOf).map D.str := by
      intro rs
      induction rs with
      | nil => intro ys _ h; cases h; rfl
      | cons r rs ih =>
        intro ys hr h
        cases h with
        | cons hp h =>
          rw [hp r (hr r List.mem_cons_self) rfl, ih (fun row hrow => hr row (List.mem_cons_of_mem _ hrow)) h]
          rfl
    exact key hr hF
  rw [List.nil_append] at e
  have ew : wipeD [none, some s, some (.int m), some (rowsD false false rows), none, none, none, none, none, none, none, none, none, none, none, none] [15] = [none, some s, some (.int m), some (rowsD false false rows), none, none, none, none, none, none, none, none, none, none, none, none] := rfl
  rw [asgM_app, lcL_app]
  have e0 : rdv 3 [none, some s, some (.int m), some (rowsD true true rows), none, none, none, none, none, none, none, none, none, none, none, none] = .ok (rowsD false false rows) [none, some s, some (.int m), some (rowsD false false rows), none, none, none, none, none, none, none, none, none, none, none, none] := by
    simp [fzL_rows]
  rw [e0]
  simp only [bnd_ok, fzL_rows]
  rw [ew, e]
  simp [hy]
end K00
end
section
set_option Elab.async false
set_option linter.all false
set_option maxRecDepth 100000
set_option maxHeartbeats 4000000
namespace K00
open PySem PySem.Spec PyProof.Rows L2 Mir
/-! ### splits of joins -/
def jl (c : Nat) : List (List Nat) → List Nat
  | [] => []
  | [x] => x
  | x :: y :: r => x ++ c :: jl c (y :: r)
theorem join_cl (c : Nat) : ∀ ws : List Str, cl (Str.join ⟨#[c]⟩ ws) = jl c (ws.map cl)
  | [] => rfl
  | [x] => rfl
  | x :: y :: r => by
    have ih := join_cl c (y :: r)
    show cl (x ++ ⟨#[c]⟩ ++ Str.join ⟨#[c]⟩ (y :: r)) = cl x ++ c :: jl c ((y :: r).map cl)
    rw [← ih]
    simp [cl, Str.cps_append]
theorem cut_eq {c : Nat} : ∀ {p q X Y : List Nat}, c ∉ p → c ∉ q → p ++ c :: X = q ++ c :: Y → p = q ∧ X = Y
  | [], [], X, Y, _, _, h => ⟨rfl, by simpa using h⟩
  | [], b :: q, X, Y, _, hq, h => by
    simp at h
    exact absurd h.1 fun z => hq (by rw [z]; exact List.mem_cons_self)
  | a :: p, [], X, Y, hp, _, h => by
    simp at h
    exact absurd h.1 fun z => hp (by rw [z]; exact List.mem_cons_self)
  | a :: p, b :: q, X, Y, hp, hq, h => by
    simp at h
    obtain ⟨e1, e2⟩ := cut_eq (fun z => hp (List.mem_cons_of_mem _ z)) (fun z => hq (List.mem_cons_of_mem _ z)) h.2
    exact ⟨by rw [h.1, e1], e2⟩
theorem jl_inj {c : Nat} : ∀ {ps qs : List (List Nat)}, ps ≠ [] → qs ≠ [] → (∀ p ∈ ps, c ∉ p) → (∀ q ∈ qs, c ∉ q) → jl c ps = jl c qs → ps = qs
  | [], _, h, _, _, _, _ => absurd rfl h
  | _, [], _, h, _, _, _ => absurd rfl h
  | [p], [q], _, _, _, _, h => by rw [show p = q from h]
  | [p], q :: q' :: r, _, _, hp, _, h => by
    have h' : p = q ++ c :: jl c (q' :: r) := h
    exact absurd (show c ∈ p by rw [h']; simp) (hp p List.mem_cons_self)
  | p :: p' :: r, [q], _, _, _, hq, h => by
    have h' : p ++ c :: jl c (p' :: r) = q := h
    exact absurd (show c ∈ q by rw [← h']; simp) (hq q List.mem_cons_self)
  | p :: p' :: r, q :: q' :: t, _, _, hp, hq, h => by
    have h' : p ++ c :: jl c (p' :: r) = q ++ c :: jl c (q' :: t) := h
    obtain ⟨e1, e2⟩ := cut_eq (hp p List.mem_cons_self) (hq q List.mem_cons_self) h'
    rw [e1, jl_inj (by simp) (by simp) (fun z hz => hp z (List.mem_cons_of_mem _ hz)) (fun z hz => hq z (List.mem_cons_of_mem _ hz)) e2]
theorem map_cl_inj {a b : List Str} (h : a.map cl = b.map cl) : a = b := by
  induction a generalizing b with
  | nil => cases b with
    | nil => rfl
    | cons _ _ => cases h
  | cons x a ih => cases b with
    | nil => cases h
    | cons y b =>
      simp only [List.map_cons, List.cons.injEq] at h
      rw [str_ext h.1, ih h.2]
theorem split_unique {c : Nat} {x : Str} {ws : List Str} (hne : ws ≠ []) (hf : ∀ w ∈ ws, c ∉ cl w) (h : cl x = jl c (ws.map cl)) : Txt.split x ⟨#[c]⟩ = ws := by
  have h1 : Str.join ⟨#[c]⟩ (Txt.split x ⟨#[c]⟩) = x := StrLaws.join_split x ⟨#[c]⟩
  have h2 := StrLaws.split_free x c
  have h3 : Txt.split x ⟨#[c]⟩ ≠ [] := by
    have := PyProof.Rows.split_pos x ⟨#[c]⟩
    intro z
    rw [z] at this
    cases this
  have h4 : jl c ((Txt.split x ⟨#[c]⟩).map cl) = jl c (ws.map cl) := by rw [← join_cl, h1, h]
  refine map_cl_inj (jl_inj (by simpa using h3) (by simpa using hne) (fun p hp => ?_) (fun q hq => ?_) h4)
  · obtain ⟨w, hw, rfl⟩ := List.mem_map.mp hp
    exact h2 w hw
  · obtain ⟨w, hw, rfl⟩ := List.mem_map.mp hq
    exact hf w hw
theorem mem_jl {c d : Nat} : ∀ {ps : List (List Nat)}, d ∈ jl c ps → d = c ∨ ∃ p ∈ ps, d ∈ p
  | [], h => by cases h
  | [x], h => .inr ⟨x, List.mem_cons_self, h⟩
  | x :: y :: r, h => by
    have h' : d ∈ x ++ c :: jl c (y :: r) := h
    rcases List.mem_append.mp h' with z | z
    · exact .inr ⟨x, List.mem_cons_self, z⟩
    · rcases List.mem_cons.mp z with z | z
      · exact .inl z
      · rcases mem_jl z with z | ⟨p, hp, hd⟩
        · exact .inl z
        · exact .inr ⟨p, List.mem_cons_of_mem _ hp, hd⟩
theorem jl_mem {c d : Nat} : ∀ {ps : List (List Nat)} {p : List Nat}, p ∈ ps → d ∈ p → d ∈ jl c ps
  | [x], p, hp, hd => by
    have e : p = x := by simpa using hp
    rw [e] at hd
    exact hd
  | x :: y :: r, p, hp, hd => by
    show d ∈ x ++ c :: jl c (y :: r)
    rcases List.mem_cons.mp hp with e | e
    · rw [e] at hd
      exact List.mem_append_left _ hd
    · exact List.mem_append_right _ (List.mem_cons_of_mem _ (jl_mem e hd))
/-- the pieces' signs are the text's -/
theorem split_chars {c : Nat} {x w : Str} (h : w ∈ Txt.split x ⟨#[c]⟩) : ∀ d ∈ cl w, d ∈ cl x := fun d hd => by
  have h1 : Str.join ⟨#[c]⟩ (Txt.split x ⟨#[c]⟩) = x := StrLaws.join_split x ⟨#[c]⟩
  rw [← h1, join_cl]
  exact jl_mem (List.mem_map_of_mem h) hd
/-! ### line_words -/
theorem oInS_sg (c : Nat) : oInS true (.str ⟨#[c]⟩) (.str v_SIGNS) = some (.bl (!decide (c ∈ sgs)), .str ⟨#[c]⟩, .str v_SIGNS) := by
  unfold oInS
  simp only [if_true]
  rw [StrLaws.found_one]
  try rfl
theorem sign_loop : ∀ (l : List Nat) (a : Option D), ∃ a', loopM (stv 3) (ifM (asB (ev2 (.slot 3) (.tmp (pure (.str v_SIGNS))) (oInS true))) (retM (pure .non)) (pure .nx)) (l.map fun c => .str ⟨#[c]⟩) [none, none, none, a] =
      .ok (if (∀ c ∈ l, c ∈ sgs) then .nx else .rt .non) [none, none, none, a']
  | [], a => ⟨a, by simp⟩
  | c :: l, a => by
    by_cases h : c ∈ sgs
    · obtain ⟨a', e⟩ := sign_loop l (some (.str ⟨#[c]⟩))
      refine ⟨a', ?_⟩
      simp [oInS_sg, h, e]
    · refine ⟨some (.str ⟨#[c]⟩), ?_⟩
      simp [oInS_sg, h]
      try exact fun z => absurd z h
theorem signsD_cl (z : Str) : signsD z = (cl z).map fun c => D.str ⟨#[c]⟩ := rfl
instance (w : Str) : Decidable (WordOk w) := by unfold WordOk; infer_instance
theorem word_loop : ∀ (ws : List Str) (a b : Option D), (∀ w ∈ ws, cpOk w = true) → ∃ a' b', loopM (stv 2) (seqM (ifM (asB (ev2 (.slot 2) (.tmp (pure (.str (PySem.Str.ofString "")))) oEq)) (retM (pure .non)) (pure .nx))
      (forS (mvv 2) (stv 3) (ifM (asB (ev2 (.slot 3) (.tmp (pure (.str v_SIGNS))) (oInS true))) (retM (pure .non)) (pure .nx)))) (ws.map D.str) [none, none, a, b] =
      .ok (if (∀ w ∈ ws, WordOk w) then .nx else .rt .non) [none, none, a', b']
  | [], a, b, _ => ⟨a, b, by simp⟩
  | w :: ws, a, b, hc => by
    have hcw := hc w List.mem_cons_self
    have eq := oEq_ss (x := w) (y := PySem.Str.ofString "") hcw (by decide +kernel)
    by_cases h0 : w = PySem.Str.ofString ""
    · refine ⟨some (.str w), b, ?_⟩
      have hn : ¬ WordOk w := fun z => z.1 (by rw [h0]; rfl)
      subst h0
      have e0 : oEq (.str (PySem.Str.ofString "")) (.str (PySem.Str.ofString "")) = some (.bl true, .str (PySem.Str.ofString ""), .str (PySem.Str.ofString "")) := by rw [eq]; simp
      simp [e0, hn]
    · obtain ⟨b1, e1⟩ := sign_loop (cl w) b
      have hne : cl w ≠ [] := fun z => h0 (str_ext z)
      by_cases hs : ∀ c ∈ cl w, c ∈ sgs
      · obtain ⟨a', b', e⟩ := word_loop ws none b1 fun w hw => hc w (List.mem_cons_of_mem _ hw)
        refine ⟨a', b', ?_⟩
        rw [if_pos hs] at e1
        have hw : WordOk w := ⟨hne, hs⟩
        simp [eq, h0, signsD_cl, e1, e, hw]
      · refine ⟨none, b1, ?_⟩
        rw [if_neg hs] at e1
        have hw : ¬ WordOk w := fun z => hs z.2
        simp [eq, h0, signsD_cl, e1, hw]
theorem line_words_is {x : Str} (hx : x.length ≤ 1000000) (hc : cpOk x = true) :
    m_line_words [.str x] = .ok (if (∀ w ∈ Txt.split x sp, WordOk w) then rowD true (Txt.split x sp) else .non) [.non] := by
  have hcw : ∀ w ∈ Txt.split x sp, cpOk w = true := fun w hw => by
    refine cpOk_of fun c hcc => ?_
    have h1 := split_chars (c := 32) hw c hcc
    unfold cpOk at hc
    rw [← Array.all_toList, List.all_eq_true] at hc
    exact of_decide_eq_true (hc c h1)
  obtain ⟨a', b', e⟩ := word_loop (Txt.split x sp) none none hcw
  have es : oSplit (.str x) (.str sp) = some (rowD true (Txt.split x sp), .str x, .str sp) := by
    unfold oSplit
    simp only []
    rw [if_pos ⟨rfl, by rw [sizeL]; omega⟩]
  by_cases h : ∀ w ∈ Txt.split x sp, WordOk w
  · rw [if_pos h] at e ⊢
    refine def_rt (ρ' := [none, none, a', b']) ?_ (by simp [outsOf]) rfl (by simp)
    refine seq_step (ρ1 := [none, some (rowD true (Txt.split x sp)), none, none]) (by simp [Mir.envOf, es]) ?_
    refine seq_step (ρ1 := [none, some (rowD true (Txt.split x sp)), a', b']) ?_ ?_
    · simp [fzL_strs, e]
    · simp
  · rw [if_neg h] at e ⊢
    refine def_rt (ρ' := [none, none, a', b']) ?_ (by simp [outsOf]) rfl (by simp)
    refine seq_step (ρ1 := [none, some (rowD true (Txt.split x sp)), none, none]) (by simp [Mir.envOf, es]) ?_
    refine seq_ret ?_
    simp [fzL_strs, e]
end K00
namespace K00
open PySem PySem.Spec PyProof.Rows L2 Mir
/-! ### split_text, scan_text -/
abbrev nl : Str := PySem.Str.ofString "\n"
def LW (x : Str) : Option (List Str) := if (∀ w ∈ Txt.split x sp, WordOk w) then some (Txt.split x sp) else none
def scanF : List Str → List (List Str) → List (List Str) × Bool
  | [], acc => (acc, false)
  | x :: xs, acc => match LW x with
    | none => (acc, true)
    | some ws => scanF xs (acc ++ [ws])
def LineFine (x : Str) : Prop := x.length ≤ 1000000 ∧ cpOk x = true
theorem lw_is {x : Str} (h : LineFine x) : m_line_words [.str x] = .ok (match LW x with | some ws => rowD true ws | none => .non) [.non] := by
  rw [line_words_is h.1 h.2]
  unfold LW
  by_cases z : ∀ w ∈ Txt.split x sp, WordOk w
  · rw [if_pos z, if_pos z]
  · rw [if_neg z, if_neg z]
theorem split_loop {P : Option D} : ∀ (xs : List Str) (acc : List (List Str)) (a3 a4 : Option D), (∀ x ∈ xs, LineFine x) → acc.length + xs.length ≤ 1000000 → ∃ a2 a3' a4',
    loopM (stv 3) (seqM (asgM (callM m_line_words [.tmp (mvv 3)]) (stv 4)) (seqM (ifM (asB (ev2 (.slot 4) (.tmp (pure .non)) oIs)) (retM (tupM (consM (mvv 2) (consM (pure (.bl true)) (pure []))))) (pure .nx)) (dropM (appM 2 (mvv 4))))) (xs.map D.str) [none, P, some (rowsD true true acc), a3, a4] =
      .ok (if (scanF xs acc).2 = true then .rt (.tup [rowsD true true (scanF xs acc).1, .bl true]) else .nx) [none, P, a2, a3', a4'] ∧ ((scanF xs acc).2 = false → a2 = some (rowsD true true (scanF xs acc).1))
  | [], acc, a3, a4, _, _ => ⟨some (rowsD true true acc), a3, a4, by simp [scanF], fun _ => rfl⟩
  | x :: xs, acc, a3, a4, hx, hl => by
    have e := lw_is (hx x List.mem_cons_self)
    have hl' : acc.length + (xs.length + 1) ≤ 1000000 := hl
    cases hw : LW x with
    | none =>
      rw [hw] at e
      refine ⟨none, none, some .non, ?_, ?_⟩
      · simp [e, scanF, hw, sizeL]
      · simp [scanF, hw]
    | some ws =>
      rw [hw] at e
      obtain ⟨a2, a3', a4', e2, h2⟩ := split_loop (P := P) xs (acc ++ [ws]) none none (fun y hy => hx y (List.mem_cons_of_mem _ hy)) (by rw [List.length_append, List.length_singleton]; omega)
      refine ⟨a2, a3', a4', ?_, ?_⟩
      · have hz : acc.length < 16777216 := by omega
        have ea : List.map (rowD true) acc ++ [D.lst true (ws.map D.str)] = List.map (rowD true) (acc ++ [ws]) := by simp
        simp [e, scanF, hw, sizeL, hz]
        rw [ea]
        exact e2
      · simpa [scanF, hw] using h2
end K00

namespace K00
open PySem PySem.Spec PyProof.Rows L2 Mir
theorem pieces_fine {x : Str} (h : LineFine x) : ∀ w ∈ Txt.split x nl, LineFine w := fun w hw => by
  refine ⟨?_, cpOk_of fun c hcc => ?_⟩
  · have := PyProof.Rows.part_short hw
    have := h.1
    omega
  · have h1 := split_chars (c := 10) hw c hcc
    have hc := h.2
    unfold cpOk at hc
    rw [← Array.all_toList, List.all_eq_true] at hc
    exact of_decide_eq_true (hc c h1)
theorem split_text_is {x : Str} (h : LineFine x) (hx : x.length ≤ 900000) {ini : List Str} {lst : Str} (hs : Txt.split x nl = ini ++ [lst]) :
    m_split_text [.str x] = .ok (.tup [rowsD true true (scanF ini []).1, .bl (if (scanF ini []).2 = true then true else decide (lst ≠ ⟨#[]⟩))]) [.non] := by
  have hf := pieces_fine h
  rw [hs] at hf
  have hlen : (ini ++ [lst]).length ≤ 1000000 := by
    have := PyProof.Rows.split_le x nl
    rw [hs] at this
    omega
  have es : oSplit (.str x) (.str nl) = some (rowD true (ini ++ [lst]), .str x, .str nl) := by
    unfold oSplit
    simp only []
    rw [if_pos ⟨rfl, by rw [sizeL]; have := h.1; omega⟩, hs]
  have eo : oSl (rowD true (ini ++ [lst])) none (some (-1)) = some (rowD true ini, rowD true (ini ++ [lst])) := by
    unfold oSl
    simp only []
    rw [fzL_strs, cut_init, ← List.map_dropLast, List.dropLast_concat]
  rw [List.length_append, List.length_singleton] at hlen
  obtain ⟨a2, a3, a4, e, h2⟩ := split_loop (P := some (rowD true (ini ++ [lst]))) ini [] none none (fun y hy => hf y (List.mem_append_left _ hy)) (by simp; omega)
  have hl : LineFine lst := hf lst (by simp)
  have hne := oNe_ss (x := lst) (y := PySem.Str.ofString "") hl.2 (by decide +kernel)
  cases hb : (scanF ini []).2 with
  | true =>
    rw [hb, if_pos rfl] at e
    refine def_rt (ρ' := [none, some (rowD true (ini ++ [lst])), a2, a3, a4]) ?_ (by simp [outsOf]) rfl (by simp)
    refine seq_step (ρ1 := [none, some (rowD true (ini ++ [lst])), none, none, none]) (by simp [Mir.envOf, es]) ?_
    refine seq_step (ρ1 := [none, some (rowD true (ini ++ [lst])), some (rowsD true true []), none, none]) (by simp [sizeL]) ?_
    refine seq_ret ?_
    rw [forL_app, evS_slot]
    have e0 : peek 1 [none, some (rowD true (ini ++ [lst])), some (rowsD true true []), none, none] = .ok (rowD true (ini ++ [lst])) [none, some (rowD true (ini ++ [lst])), some (rowsD true true []), none, none] := rfl
    simp only [e0, bnd_ok, evPo_none, evPo_some, ev1_tmp, pure_app, oNeg_i, eo, setq_def, isx_lst]
    simp [fzL_strs]
    simpa using e
  | false =>
    have e2 := h2 hb
    subst e2
    rw [hb, if_neg (by decide)] at e
    refine def_rt (ρ' := [none, some (rowD true (ini ++ [lst])), none, a3, a4]) ?_ (by simp [outsOf]) rfl (by simp)
    refine seq_step (ρ1 := [none, some (rowD true (ini ++ [lst])), none, none, none]) (by simp [Mir.envOf, es]) ?_
    refine seq_step (ρ1 := [none, some (rowD true (ini ++ [lst])), some (rowsD true true []), none, none]) (by simp [sizeL]) ?_
    refine seq_step (ρ1 := [none, some (rowD true (ini ++ [lst])), some (rowsD true true (scanF ini []).1), a3, a4]) ?_ ?_
    · rw [forL_app, evS_slot]
      have e0 : peek 1 [none, some (rowD true (ini ++ [lst])), some (rowsD true true []), none, none] = .ok (rowD true (ini ++ [lst])) [none, some (rowD true (ini ++ [lst])), some (rowsD true true []), none, none] := rfl
      simp only [e0, bnd_ok, evPo_none, evPo_some, ev1_tmp, pure_app, oNeg_i, eo, setq_def, isx_lst]
      simp [fzL_strs]
      simpa using e
    · have ei : oIx (rowD true (ini ++ [lst])) (.int (-1)) = some (.str lst, rowD true (ini ++ [lst]), .int (-1)) := by
        have := oIx_l (o := true) (xs := (ini ++ [lst]).map D.str) (i := -1) (d := .str lst) (k := ini.length) (by rw [ixN_last (by simp)]; simp) (by simp)
        rw [this]
        simp
      simp [ei, hne, sizeL]
      rfl
end K00
end
section
set_option Elab.async false
set_option linter.all false
set_option maxRecDepth 100000
set_option maxHeartbeats 4000000
namespace K00
open PySem PySem.Spec PyProof.Rows L2 Mir
theorem toPL_strs (row : List Str) : toPL (row.map D.str) = some (row.map PyData.str) := by
  induction row with
  | nil => rfl
  | cons w row ih => simp [toPL, toP, ih]
theorem toPL_rows {o : Bool} (rows : List (List Str)) : toPL (rows.map (rowD o)) = some (rows.map fun r => PyData.list (r.map PyData.str)) := by
  induction rows with
  | nil => rfl
  | cons r rows ih => simp [toPL, toP, ih, toPL_strs]
theorem depth_strs (row : List Str) : PyData.depthAll (row.map PyData.str) = 0 := by
  induction row with
  | nil => rfl
  | cons w row ih => simp [PyData.depthAll, PyData.depth, ih]
theorem lay_strs {row : List Str} (h : ∀ w ∈ row, cpOk w = true) : PyData.canLayAll0 (row.map PyData.str) = true := by
  induction row with
  | nil => rfl
  | cons w row ih =>
    show (PyData.canLay0 (.str w) && PyData.canLayAll0 (row.map PyData.str)) = true
    rw [ih fun z hz => h z (List.mem_cons_of_mem _ hz), Bool.and_true]
    exact h w List.mem_cons_self
theorem shaped_rows {rows : List (List Str)} (h : ∀ r ∈ rows, ∀ w ∈ r, cpOk w = true) : SeqAt.shaped (.list (rows.map fun r => PyData.list (r.map PyData.str))) = true := by
  have h1 : PyData.canLayAll0 (rows.map fun r => PyData.list (r.map PyData.str)) = true := by
    induction rows with
    | nil => rfl
    | cons r rows ih =>
      show (PyData.canLayAll0 (r.map PyData.str) && PyData.canLayAll0 _) = true
      rw [lay_strs (h r List.mem_cons_self), ih fun z hz => h z (List.mem_cons_of_mem _ hz)]
      rfl
  have h2 : PyData.depthAll (rows.map fun r => PyData.list (r.map PyData.str)) ≤ 1 := by
    clear h h1
    induction rows with
    | nil => simp [PyData.depthAll]
    | cons r rows ih =>
      show max (PyData.depthAll (r.map PyData.str) + 1) (PyData.depthAll _) ≤ 1
      rw [depth_strs]
      omega
  unfold SeqAt.shaped
  rw [Bool.and_eq_true]
  refine ⟨h1, decide_eq_true ?_⟩
  show PyData.depthAll _ + 1 ≤ 64
  omega
theorem rows_nil {o o' : Bool} {rows : List (List Str)} (h : ∀ r ∈ rows, ∀ w ∈ r, cpOk w = true) : oEq (rowsD o o' rows) (.lst true []) = some (.bl (decide (rows = [])), rowsD o o' rows, .lst true []) := by
  have e1 : toP (rowsD o o' rows) = some (.list (rows.map fun r => PyData.list (r.map PyData.str))) := by simp [toP, toPL_rows]
  have e2 : toP (.lst true []) = some (.list []) := rfl
  unfold oEq deq
  rw [e1, e2]
  simp only []
  rw [if_pos ⟨shaped_rows h, by decide⟩]
  have e3 : PyData.eqv (.list (rows.map fun r => PyData.list (r.map PyData.str))) (.list []) = decide (rows = []) := by
    cases rows with
    | nil => rfl
    | cons r rows => rfl
  rw [e3]
  rfl
theorem scan_words : ∀ (xs : List Str) (acc : List (List Str)), (∀ r ∈ acc, ∀ w ∈ r, WordOk w) → ∀ r ∈ (scanF xs acc).1, ∀ w ∈ r, WordOk w
  | [], acc, h => h
  | x :: xs, acc, h => by
    unfold scanF
    cases e : LW x with
    | none => exact h
    | some ws =>
      refine scan_words xs (acc ++ [ws]) fun r hr => ?_
      rcases List.mem_append.mp hr with z | z
      · exact h r z
      · have er : r = ws := by simpa using z
        rw [er]
        unfold LW at e
        by_cases q : ∀ w ∈ Txt.split x sp, WordOk w
        · rw [if_pos q] at e
          cases e
          exact q
        · rw [if_neg q] at e
          cases e
/-- what a scan tells: the rows, or the wrong line's number -/
def scanT (ini : List Str) (lst : Str) : (List (List Str)) × Bool := ((scanF ini []).1, (scanF ini []).2 || decide (lst ≠ ⟨#[]⟩) || decide ((scanF ini []).1 = []))
theorem scan_text_is {x : Str} (h : LineFine x) (hx : x.length ≤ 900000) {ini : List Str} {lst : Str} (hs : Txt.split x nl = ini ++ [lst]) :
    m_scan_text [.str x] = if (scanT ini lst).2 = true then .err ⟨"BadText", ["line"], [.int ((scanT ini lst).1.length + 1)]⟩ else .ok (rowsD true true (scanT ini lst).1) [.non] := by
  have e := split_text_is h hx hs
  have hw := scan_words ini [] (fun r hr => by cases hr)
  have en := rows_nil (o := true) (o' := true) (rows := (scanF ini []).1) fun r hr w hw' => (hw r hr w hw').cp
  have st : asgM (callM m_split_text [.tmp (mvv 0)]) (fun d => match d with | .tup ds => (if ds.length = 2 then (fun ds => match ds with | d :: r => (do (stv 1) d; (fun ds => match ds with | d :: r => (do (stv 2) d; (fun ds => match ds with | [] => pure () | _ => badM) r) | [] => badM) r) | [] => badM) ds else badM) | _ => badM)
      (Mir.envOf 3 [.str x]) = .ok .nx [none, some (rowsD true true (scanF ini []).1), some (.bl (if (scanF ini []).2 = true then true else decide (lst ≠ ⟨#[]⟩)))] := by
    simp [Mir.envOf, e, noX_app]
  unfold scanT
  cases hb : (scanF ini []).2 with
  | true =>
    rw [hb] at st
    simp only [Bool.true_or, if_true] at st ⊢
    refine def_err (ρ' := [none, some (rowsD true true (scanF ini []).1), some (.bl true)]) ?_ rfl (by simp)
    refine seq_step st ?_
    refine seq_err ?_
    simp [raiseErr, raiseM]
  | false =>
    rw [hb] at st
    simp only [Bool.false_or, Bool.false_eq_true, if_false] at st ⊢
    by_cases hl : lst = ⟨#[]⟩
    · subst hl
      simp only [ne_eq, not_true_eq_false, decide_false, Bool.false_or] at st ⊢
      by_cases hn : (scanF ini []).1 = []
      · rw [hn] at en st ⊢
        refine def_err (ρ' := [none, some (rowsD true true []), some (.bl false)]) ?_ rfl (by simp)
        refine seq_step st ?_
        refine seq_err ?_
        simp only [List.map_nil] at en
        simp [raiseErr, raiseM, en, sizeL]
      · simp only [hn, decide_false, Bool.false_eq_true, if_false] at en ⊢
        refine def_rt (ρ' := [none, none, some (.bl false)]) ?_ (by simp [outsOf]) rfl (by simp)
        refine seq_step st ?_
        refine seq_step (ρ1 := [none, some (rowsD true true (scanF ini []).1), some (.bl false)]) ?_ ?_
        · simp [en, sizeL]
        · simp
    · simp only [ne_eq, hl, not_false_eq_true, decide_true, Bool.true_or, if_true] at st ⊢
      refine def_err (ρ' := [none, some (rowsD true true (scanF ini []).1), some (.bl true)]) ?_ rfl (by simp)
      refine seq_step st ?_
      refine seq_err ?_
      simp [raiseErr, raiseM]
end K00
end
section
set_option Elab.async false
set_option linter.all false
set_option maxRecDepth 100000
set_option maxHeartbeats 4000000
namespace K00
open PySem PySem.Spec PyProof.Rows L2 Mir
abbrev bt (k : Int) : Exn := ⟨"BadText", ["line"], [.int k]⟩
abbrev faultD (k : Int) : D := .tup [.str (PySem.Str.ofString "BadText"), .int k]
theorem et_bt : (et0.any fun p => p.1 == ("BadText" : Str)) = true := by decide +kernel
theorem et_btl : (et0.any fun p => p.1 == ("BadText" : Str) && p.2.contains ("line" : Str)) = true := by decide +kernel
theorem fault_is (k : Int) : m__law_fault (bt k) [.exn] = .ok (faultD k) [.non] := by
  have a1 : ans_TooMany "BadText" = false := by decide +kernel
  have a2 : ans_BadNet "BadText" = false := by decide +kernel
  have a3 : ans_BadLots "BadText" = false := by decide +kernel
  have a4 : ans_BadWant "BadText" = false := by decide +kernel
  have a5 : ans_BadOutage "BadText" = false := by decide +kernel
  have a6 : ans_BadStanding "BadText" = false := by decide +kernel
  have a7 : ans_Unsafe "BadText" = false := by decide +kernel
  have a8 : ans_BadTask "BadText" = false := by decide +kernel
  have a9 : ans_BadAsk "BadText" = false := by decide +kernel
  have a10 : ans_BadPlan "BadText" = false := by decide +kernel
  have a11 : ans_BadLook "BadText" = false := by decide +kernel
  have a12 : ans_BadCourse "BadText" = false := by decide +kernel
  have a13 : ans_BadText "BadText" = true := by decide +kernel
  have a14 : ans_BadDeed "BadText" = false := by decide +kernel
  have a15 : ans_WorksError "BadText" = true := rfl
  have ix : oIx (.lst true [faultD k]) (.int 0) = some (faultD k, .lst true [faultD k], .int 0) := rfl
  refine defX_rt (ρ' := [some .exn, some (.lst true [faultD k])]) ?_ (by simp [outsOf]) rfl rfl rfl
  unfold g__law_fault
  refine seq_step (ρ1 := [some .exn, some (.lst true [])]) (by simp [Mir.envOf, sizeL]) ?_
  refine seq_step (ρ1 := [some .exn, some (.lst true [])]) (by simp [et_bt, a1]) ?_
  refine seq_step (ρ1 := [some .exn, some (.lst true [])]) (by simp [et_bt, a2]) ?_
  refine seq_step (ρ1 := [some .exn, some (.lst true [])]) (by simp [et_bt, a3]) ?_
  refine seq_step (ρ1 := [some .exn, some (.lst true [])]) (by simp [et_bt, a4]) ?_
  refine seq_step (ρ1 := [some .exn, some (.lst true [])]) (by simp [et_bt, a5]) ?_
  refine seq_step (ρ1 := [some .exn, some (.lst true [])]) (by simp [et_bt, a6]) ?_
  refine seq_step (ρ1 := [some .exn, some (.lst true [])]) (by simp [et_bt, a7]) ?_
  refine seq_step (ρ1 := [some .exn, some (.lst true [])]) (by simp [et_bt, a8]) ?_
  refine seq_step (ρ1 := [some .exn, some (.lst true [])]) (by simp [et_bt, a9]) ?_
  refine seq_step (ρ1 := [some .exn, some (.lst true [])]) (by simp [et_bt, a10]) ?_
  refine seq_step (ρ1 := [some .exn, some (.lst true [])]) (by simp [et_bt, a11]) ?_
  refine seq_step (ρ1 := [some .exn, some (.lst true [])]) (by simp [et_bt, a12]) ?_
  refine seq_step (ρ1 := [some .exn, some (.lst true [faultD k])]) ?_ ?_
  · have el : List.lookup ("line" : Str) (([("line" : Str)] : List Str).zip [D.int k]) = some (.int k) := by simp [List.lookup]
    have e2 := et_btl
    simp only [ifM_app, evT_tmp, isxM_app, peek_def, List.getElem?_cons_zero, bnd_ok, isx_exn, et_bt, and_self, if_true, a13, tru_bl, dropM_app, appM_app, tupM_app, consM_app, pure_app, fldM_app, e2, el, List.getElem?_cons_succ, sizeL]
    simp
  refine seq_step (ρ1 := [some .exn, some (.lst true [faultD k])]) (by simp [et_bt, a14]) ?_
  simp [et_bt, a15, ix]
theorem scan_is {x : Str} (h : LineFine x) (hx : x.length ≤ 900000) {ini : List Str} {lst : Str} (hs : Txt.split x nl = ini ++ [lst]) :
    m__law_a_scan [.str x] = .ok (if (scanT ini lst).2 = true then .tup [.non, faultD ((scanT ini lst).1.length + 1)] else .tup [rowsD true true (scanT ini lst).1, .non]) [.non] := by
  have e := scan_text_is h hx hs
  cases hb : (scanT ini lst).2 with
  | true =>
    rw [hb] at e
    simp only [if_true] at e ⊢
    refine def_rt (ρ' := [some (.str x), none, none, none]) ?_ (by simp [outsOf]) rfl (by simp)
    refine seq_step (ρ1 := [some (.str x), some .non, some (faultD ((scanT ini lst).1.length + 1)), none]) ?_ ?_
    · refine tryM_err (i := 3) (x := bt ((scanT ini lst).1.length + 1)) (ρ1 := [some (.str x), none, none, none]) (ρ2 := [some (.str x), some .non, some (faultD ((scanT ini lst).1.length + 1)), some .exn]) ?_ ?_ (by simp) ?_ (by simp [noExn])
      · simp [Mir.envOf, e]
      · unfold tbl_WorksError
        show (if (et0.any fun p => p.1 == ("BadText" : Str)) = true then some (ans_WorksError "BadText") else none) = some true
        rw [if_pos et_bt]
        rfl
      · have ef := fault_is ((scanT ini lst).1.length + 1)
        have eh : heldX (bt ((scanT ini lst).1.length + 1)) = bt ((scanT ini lst).1.length + 1) := rfl
        rw [eh]
        simp [ef]
    · simp [sizeL]
  | false =>
    rw [hb] at e
    simp only [Bool.false_eq_true, if_false] at e ⊢
    refine def_rt (ρ' := [some (.str x), none, none, none]) ?_ (by simp [outsOf]) rfl (by simp)
    refine seq_step (ρ1 := [some (.str x), some (rowsD true true (scanT ini lst).1), some .non, none]) ?_ ?_
    · refine tryM_ok ?_
      simp [Mir.envOf, e]
    · simp [sizeL]
end K00
end
section
set_option Elab.async false
set_option linter.all false
set_option maxRecDepth 100000
set_option maxHeartbeats 4000000
namespace K00
open PySem PySem.Spec PyProof.Rows L2 Mir
theorem great : ∃ g g2 g3 g4 g5 e : Int, 0 < g5 ∧ oPow (.int 10) (.int 64) = some (.int g, .int 10, .int 64) ∧ oMul (.int g) (.int g) = some (.int g2, .int g, .int g) ∧ oMul (.int g2) (.int g) = some (.int g3, .int g2, .int g) ∧
    oMul (.int g3) (.int g) = some (.int g4, .int g3, .int g) ∧ oMul (.int g4) (.int g) = some (.int g5, .int g4, .int g) ∧ oPow (.int 10) (.int 18) = some (.int e, .int 10, .int 18) :=
  ⟨10 ^ 64, 10 ^ 128, 10 ^ 192, 10 ^ 256, 10 ^ 320, 10 ^ 18, by decide +kernel, by rfl,
    oMul_ii (by decide +kernel), oMul_ii (by decide +kernel), oMul_ii (by decide +kernel), oMul_ii (by decide +kernel), by rfl⟩
theorem cut_map {α β : Type} (f : α → β) (xs : List α) (l u : Option Int) : cutL (xs.map f) l u = (cutL xs l u).map f := by
  unfold cutL
  rw [List.length_map, ← List.map_drop, ← List.map_take]
theorem intsOf_map (ns : List Int) : intsOf (ns.map V.int) = some (ns.map D.int) := by
  induction ns with
  | nil => rfl
  | cons n ns ih => simp [intsOf, ih]
theorem atI_map {ns : List Int} (h : 0 < ns.length) : ∃ n, atI (ns.map V.int) 0 = some (.int n) := by
  cases ns with
  | nil => simp at h
  | cons n ns => exact ⟨n, by unfold atI ixN; simp⟩
theorem fold_loop {vs : List V} : ∀ (l : List Int) (f : Int) (x : Option D), ∃ f' x', loopM (stv 3)
    (asgM (ev2 (.tmp (ev2 (.tmp (ev2 (.tmp (ev2 (.slot 2) (.tmp (pure (.int 1000003))) oMul)) (.tmp (ev1 (.slot 3) oInt)) oPlus)) (.tmp (pure (.int 12289))) oPlus)) (.tmp (pure (.int 2305843009213693951))) oMod) (stv 2)) (l.map D.int)
    [some (.seq vs), some (.int 0), some (.int f), x, none, none, none] = .ok .nx [some (.seq vs), some (.int 0), some (.int f'), x', none, none, none]
  | [], f, x => ⟨f, x, rfl⟩
  | n :: l, f, x => by
    obtain ⟨f', x', e⟩ := fold_loop (vs := vs) l ((f * 1000003 + n + 12289) % 2305843009213693951) (some (.int n))
    have m1 : oMul (.int f) (.int 1000003) = some (.int (f * 1000003), .int f, .int 1000003) := oMul_ii (by simp [mulB])
    have n1 : ∀ i, oMod (.int i) (.int 2305843009213693951) = some (.int (i % 2305843009213693951), .int i, .int 2305843009213693951) := fun i => oMod_ii (by decide)
    refine ⟨f', x', ?_⟩
    rw [List.map_cons, loopM_cons]
    simp [m1, n1]
    exact e
theorem fzL_ints (l : List Int) : fzL (l.map D.int) = l.map D.int := by
  rw [fzL_map, List.map_map]
  rfl
theorem source_ok (ns : List Int) : ∃ s, IsS s ∧ m__law_source [.seq (ns.map V.int), .int 0] = .ok s [.non, .non] := by
  obtain ⟨g, g2, g3, g4, g5, e18, h5, p1, q1, q2, q3, q4, p2⟩ := great
  obtain ⟨f, x, ef⟩ := fold_loop (vs := ns.map V.int) (cutL ns none (some 63)) 0 none
  have m5 : ∀ i, oMod (.int i) (.int g5) = some (.int (i % g5), .int i, .int g5) := fun i => oMod_ii h5
  have hs : oSl (.seq (ns.map V.int)) none (some 63) = some (.lst true ((cutL ns none (some 63)).map D.int), .seq (ns.map V.int)) := by
    unfold oSl
    simp only [cut_map, intsOf_map]
  have key : ∃ c : Int, asgM (ifV (asB (ev2 (.slot 1) (.tmp (ev1 (.slot 0) oLen)) oLt)) (ev1 (.tmp (ev2 (.slot 0) (.slot 1) oIx)) oInt) (pure (.int 0))) (stv 4)
      [some (.seq (ns.map V.int)), some (.int 0), some (.int f), x, none, none, none] = .ok .nx [some (.seq (ns.map V.int)), some (.int 0), some (.int f), x, some (.int c), none, none] := by
    by_cases h : 0 < ns.length
    · obtain ⟨n, en⟩ := atI_map h
      have ei : oIx (.seq (ns.map V.int)) (.int 0) = some (.int n, .seq (ns.map V.int), .int 0) := by
        unfold oIx
        simp only [en]
      have h' : ns ≠ [] := by intro z; subst z; simp at h
      exact ⟨n, by simp [h', ei, List.length_pos_iff]⟩
    · have h' : ns = [] := by
        cases ns with
        | nil => rfl
        | cons _ _ => simp at h
      subst h'
      exact ⟨0, by simp⟩
  obtain ⟨c, ec⟩ := key
  have key2 : ∃ o : Int, asgM (ifV (asB (ev2 (.slot 4) (.tmp (ev2 (.tmp (pure (.int 10))) (.tmp (pure (.int 18))) oPow)) oGe)) (rdv 4) (pure (.int 0))) (stv 6)
      [some (.seq (ns.map V.int)), some (.int 0), some (.int f), x, some (.int (c % g5)), some (.int g), none] = .ok .nx [some (.seq (ns.map V.int)), some (.int 0), some (.int f), x, some (.int (c % g5)), some (.int g), some (.int o)] := by
    by_cases h : e18 ≤ c % g5
    · exact ⟨c % g5, by simp [p2, h]⟩
    · exact ⟨0, by simp [p2, h]⟩
  obtain ⟨o, eo⟩ := key2
  have m1 : oMul (.int 911) (.int 0) = some (.int 0, .int 911, .int 0) := oMul_ii (by decide +kernel)
  have m2 : oMul (.int 5077) (.int 0) = some (.int 0, .int 5077, .int 0) := oMul_ii (by decide +kernel)
  have n1 : ∀ i, oMod (.int i) (.int 2147483647) = some (.int (i % 2147483647), .int i, .int 2147483647) := fun i => oMod_ii (by decide)
  have n2 : ∀ i, oMod (.int i) (.int 2147483629) = some (.int (i % 2147483629), .int i, .int 2147483629) := fun i => oMod_ii (by decide)
  have n3 : ∀ i, oDiv (.int i) (.int 2147483647) = some (.int (i / 2147483647), .int i, .int 2147483647) := fun i => oDiv_ii (by decide) (by decide +kernel)
  refine ⟨S4 o ((f + 0 + 7) % 2147483647) ((f / 2147483647 + 0 + 3) % 2147483629) 0, ⟨_, _, _, _, rfl⟩, def_rt (ρ' := [some (.seq (ns.map V.int)), some (.int 0), some (.int f), x, some (.int (c % g5)), some (.int g), none]) ?_ (by simp [outsOf]) rfl (by simp)⟩
  unfold g__law_source
  refine seq_step (ρ1 := [some (.seq (ns.map V.int)), some (.int 0), some (.int 0), none, none, none, none]) (by simp [Mir.envOf]) ?_
  refine seq_step (ρ1 := [some (.seq (ns.map V.int)), some (.int 0), some (.int f), x, none, none, none]) (by simp [hs, fzL_ints]; exact ef) ?_
  refine seq_step ec ?_
  refine seq_step (ρ1 := [some (.seq (ns.map V.int)), some (.int 0), some (.int f), x, some (.int c), some (.int g), none]) (by simp [p1]) ?_
  refine seq_step (ρ1 := [some (.seq (ns.map V.int)), some (.int 0), some (.int f), x, some (.int (c % g5)), some (.int g), none]) (by simp [q1, q2, q3, q4, m5]) ?_
  refine seq_step eo ?_
  simp [m1, m2, n1, n2, n3, sizeL]
end K00
end
section
set_option Elab.async false
set_option linter.all false
set_option maxRecDepth 100000
set_option maxHeartbeats 4000000
namespace K00
open PySem PySem.Spec PyProof.Rows L2 Mir
theorem cl_app (a b : Str) : cl (a ++ b) = cl a ++ cl b := by simp [cl, Str.cps_append]
theorem cl_join0 : ∀ ws : List Str, cl (Str.join ⟨#[]⟩ ws) = (ws.map cl).flatten
  | [] => rfl
  | [x] => by simp [Str.join]
  | x :: y :: r => by
    have ih := cl_join0 (y :: r)
    show cl (x ++ ⟨#[]⟩ ++ Str.join ⟨#[]⟩ (y :: r)) = _
    rw [cl_app, cl_app, ih]
    simp [cl]
def textOf (ls : List Str) : Str := Txt.join ⟨#[]⟩ (ls.map (· ++ nl))
theorem cl_nl : cl nl = [10] := by decide +kernel
theorem cl_sp : cl sp = [32] := by decide +kernel
theorem text_cl (ls : List Str) : cl (textOf ls) = ((ls.map cl).map (· ++ [10])).flatten := by
  have e : textOf ls = Str.join ⟨#[]⟩ (ls.map (· ++ nl)) := StrLaws.glued_eq_join _ _
  rw [e, cl_join0]
  congr 1
  rw [List.map_map, List.map_map]
  refine List.map_congr_left fun l _ => ?_
  show cl (l ++ nl) = cl l ++ [10]
  rw [cl_app, cl_nl]
theorem jl_tail (c : Nat) : ∀ ps : List (List Nat), jl c (ps ++ [[]]) = (ps.map (· ++ [c])).flatten
  | [] => rfl
  | [p] => by simp [jl]
  | p :: q :: r => by
    have ih := jl_tail c (q :: r)
    show p ++ c :: jl c ((q :: r) ++ [[]]) = _
    rw [ih]
    simp
theorem jl_last (c : Nat) : ∀ ps : List (List Nat), ps ≠ [] → ((ps.map (· ++ [c])).flatten).dropLast = jl c ps
  | [], h => absurd rfl h
  | [p], _ => by simp [jl]
  | p :: q :: r, _ => by
    have ih := jl_last c (q :: r) (by simp)
    show ((p ++ [c]) ++ ((q :: r).map (· ++ [c])).flatten).dropLast = p ++ c :: jl c (q :: r)
    rw [← ih, List.dropLast_append_of_ne_nil (by simp)]
    simp
theorem text_split {ls : List Str} (h : ∀ l ∈ ls, 10 ∉ cl l) : Txt.split (textOf ls) nl = ls ++ [⟨#[]⟩] := by
  refine split_unique (c := 10) (by simp) (fun w hw => ?_) ?_
  · rcases List.mem_append.mp hw with hw | hw
    · exact h w hw
    · rw [List.mem_singleton] at hw; subst hw; simp [cl]
  · rw [text_cl, ← jl_tail]; simp [cl]
theorem cut_split {ls : List Str} (hne : ls ≠ []) (h : ∀ l ∈ ls, 10 ∉ cl l) {x : Str} (hx : cl x = (cl (textOf ls)).dropLast) : Txt.split x nl = ls := by
  refine split_unique (c := 10) hne h ?_
  rw [hx, text_cl, jl_last _ _ (by simpa using hne)]
theorem nl_len (l : Str) : (l ++ nl).length = l.length + 1 := by rw [← cl_len, cl_app, cl_nl, List.length_append, cl_len]; rfl
theorem text_len {ls : List Str} (h : ∀ l ∈ ls, l.length ≤ 2000) (hn : ls.length ≤ 60) : (textOf ls).length ≤ 130000 := by
  have := join_len (x := ⟨#[]⟩) (ws := ls.map (· ++ nl)) (B := 2001) (n := 60) (fun w hw => by
    obtain ⟨l, hl, rfl⟩ := List.mem_map.mp hw
    rw [nl_len]
    have := h l hl
    omega) (by rw [List.length_map]; exact hn)
  have e : (⟨#[]⟩ : Str).length = 0 := rfl
  rw [e] at this
  unfold textOf
  omega
theorem text_cp {ls : List Str} (h : ∀ l ∈ ls, ∀ c ∈ cl l, c < 1114112) : cpOk (textOf ls) = true := cpOk_of fun c hc => by
  rw [text_cl, List.mem_flatten] at hc
  obtain ⟨p, hp, hc⟩ := hc
  obtain ⟨q, hq, rfl⟩ := List.mem_map.mp hp
  obtain ⟨l, hl, rfl⟩ := List.mem_map.mp hq
  rcases List.mem_append.mp hc with hc | hc
  · exact h l hl c hc
  · rw [List.mem_singleton] at hc; omega
theorem lines_is {o : Bool} {ls : List Str} (h : ∀ l ∈ ls, l.length ≤ 2000) (hn : ls.length ≤ 60) : m__law_a_lines [rowD o ls] = .ok (.str (textOf ls)) [rowD o ls] := by
  obtain ⟨ys, ρ2, e, eρ, hF⟩ := compM_run (vs := [1]) (tg := stv 1) (elt := ev2 (.slot 1) (.tmp (pure (.str (PySem.Str.ofString "\n")))) oPlus) (I := fun ρ => ρ = [none, none])
    (P := fun d y => ∀ l, d = .str l → y = .str (l ++ nl)) (fun ρ e => by subst e; rfl) (ls.map D.str) [] [none, none] (fun d hd ρ e => by
      subst e
      obtain ⟨l, hm, rfl⟩ := List.mem_map.mp hd
      have hl := h l hm
      have ep : oPlus (.str l) (.str (PySem.Str.ofString "\n")) = some (.str (l ++ nl), .str l, .str nl) := oPlus_ss (by have : (PySem.Str.ofString "\n").length = 1 := rfl; rw [this, sizeL]; omega)
      refine ⟨[none, some (.str l)], .str (l ++ nl), [none, some (.str l)], by simp, ?_, fun l' e => ?_, rfl⟩
      · simp [ep]
      · cases e; rfl) rfl (by rw [List.length_map, sizeL]; simp; omega)
  subst eρ
  have hy : ys = (ls.map (· ++ nl)).map D.str := by
    have key : ∀ {ls : List Str} {ys : List D}, All2 (fun d y => ∀ l, d = D.str l → y = .str (l ++ nl)) (ls.map D.str) ys → ys = (ls.map (· ++ nl)).map D.str := by
      intro rs
      induction rs with
      | nil => intro ys h; cases h; rfl
      | cons r rs ih =>
        intro ys h
        cases h with
        | cons hp h =>
          rw [hp r rfl, ih h]
          rfl
    exact key hF
  rw [List.nil_append] at e
  have ej : oJoin (.str (PySem.Str.ofString "")) (.lst true ys) = some (.str (textOf ls), .str (PySem.Str.ofString ""), .lst true ys) := by
    rw [hy]
    refine oJoin_ok ?_
    have h1 := sum_le (ws := ls.map (· ++ nl)) (B := 2001) fun w hw => by
      obtain ⟨l, hl, rfl⟩ := List.mem_map.mp hw
      rw [nl_len]
      have := h l hl
      omega
    have e0 : (PySem.Str.ofString "").length = 0 := rfl
    rw [e0]
    rw [List.length_map] at h1
    omega
  refine def_rt (ρ' := [some (rowD o ls), none]) ?_ (by simp [outsOf]) rfl (by simp)
  unfold g__law_a_lines
  rw [retM_app, evM1_pt]
  simp [Mir.envOf, fzL_strs, wipeD, e, ej]
/-! ### good lines -/
theorem lw_row {row : List Str} (h : RowOk row) : LW (lineOf row) = some row := by
  have e : Txt.split (lineOf row) sp = row := by
    refine split_unique (c := 32) h.1 (fun w hw z => (sgs_lt 32 ((h.2.2 w hw).1.2 32 z)).2.1 rfl) ?_
    have e : lineOf row = Str.join sp row := StrLaws.glued_eq_join _ _
    rw [e, ← join_cl]
    rfl
  unfold LW
  rw [e, if_pos fun w hw => (h.2.2 w hw).1]
theorem line_cl (row : List Str) : cl (lineOf row) = jl 32 (row.map cl) := by
  have e : lineOf row = Str.join sp row := StrLaws.glued_eq_join _ _
  rw [e, ← join_cl]
  rfl
theorem line_mem {row : List Str} (h : RowOk row) {c : Nat} (hc : c ∈ cl (lineOf row)) : c = 32 ∨ c ∈ sgs := by
  rw [line_cl] at hc
  rcases mem_jl hc with e | ⟨p, hp, hc⟩
  · exact .inl e
  · obtain ⟨w, hw, rfl⟩ := List.mem_map.mp hp
    exact .inr ((h.2.2 w hw).1.2 c hc)
theorem line_free {row : List Str} (h : RowOk row) : 10 ∉ cl (lineOf row) := fun z => by
  rcases line_mem h z with e | e
  · cases e
  · exact (sgs_lt 10 e).2.2 rfl
theorem line_lt {row : List Str} (h : RowOk row) : ∀ c ∈ cl (lineOf row), c < 1114112 := fun c z => by
  rcases line_mem h z with e | e
  · omega
  · have := (sgs_lt c e).1; omega
theorem scan_good : ∀ {rows acc : List (List Str)}, (∀ row ∈ rows, RowOk row) → scanF (rows.map lineOf) acc = (acc ++ rows, false)
  | [], acc, _ => by simp [scanF]
  | r :: rows, acc, h => by
    rw [List.map_cons, scanF, lw_row (h r List.mem_cons_self)]
    simp only []
    rw [scan_good fun r hr => h r (List.mem_cons_of_mem _ hr), List.append_assoc]
    rfl
/-- the first bad line -/
theorem scan_bad : ∀ {rows acc : List (List Str)} {x : Str} {ls : List Str}, (∀ row ∈ rows, RowOk row) → LW x = none → scanF (rows.map lineOf ++ x :: ls) acc = (acc ++ rows, true)
  | [], acc, x, ls, _, hx => by
    show scanF (x :: ls) acc = _
    rw [scanF, hx, List.append_nil]
  | r :: rows, acc, x, ls, h, hx => by
    show scanF (lineOf r :: (rows.map lineOf ++ x :: ls)) acc = _
    rw [scanF, lw_row (h r List.mem_cons_self)]
    simp only []
    rw [scan_bad (fun r hr => h r (List.mem_cons_of_mem _ hr)) hx, List.append_assoc]
    rfl
/-- the scan of good rows' text -/
theorem scan_rows {rows : List (List Str)} (h : ∀ row ∈ rows, RowOk row) (hne : rows ≠ []) (hn : rows.length ≤ 60) {o : Bool} :
    ∃ x, m__law_a_lines [rowD o (rows.map lineOf)] = .ok (.str x) [rowD o (rows.map lineOf)] ∧ m__law_a_scan [.str x] = .ok (.tup [rowsD true true rows, .non]) [.non] := by
  have hl : ∀ l ∈ rows.map lineOf, l.length ≤ 2000 := fun l hl => by
    obtain ⟨r, hr, rfl⟩ := List.mem_map.mp hl
    have := line_len (h r hr)
    omega
  have hn' : (rows.map lineOf).length ≤ 60 := by rw [List.length_map]; exact hn
  have hf : ∀ l ∈ rows.map lineOf, 10 ∉ cl l := fun l hl => by
    obtain ⟨r, hr, rfl⟩ := List.mem_map.mp hl
    exact line_free (h r hr)
  have ht := text_len hl hn'
  refine ⟨textOf (rows.map lineOf), lines_is hl hn', ?_⟩
  rw [scan_is ⟨by omega, text_cp fun l hl => by
    obtain ⟨r, hr, rfl⟩ := List.mem_map.mp hl
    exact line_lt (h r hr)⟩ (by omega) (text_split hf)]
  have e : scanT (rows.map lineOf) ⟨#[]⟩ = (rows, false) := by
    unfold scanT
    rw [scan_good h]
    simp [hne]
  rw [e]
  rfl
end K00
end
section
set_option Elab.async false
set_option linter.all false
set_option maxRecDepth 100000
set_option maxHeartbeats 4000000
namespace K00
open PySem PySem.Spec PyProof.Rows L2 Mir
section
variable {ρ : Mir.Env}
@[simp] theorem callE2_app {f : List D → FRes} {i j i' j' : Nat} : callE2 f i j i' j' ρ = (peek i ρ).bnd fun a ρ1 => (peek j ρ1).bnd fun n ρ2 => (peek i' ρ2).bnd fun b ρ3 => (peek j' ρ3).bnd fun n' ρ4 =>
    if i = i' then .bad else match eltK a n, eltK b n' with
    | some (k, d), some (k', d') => (match f [d, d'] with
      | .ok r [o, o'] => .ok r ((ρ4.set i (some (putE a k o))).set i' (some (putE b k' o')))
      | _ => .bad)
    | _, _ => .bad := by
  unfold callE2
  rw [bind_app]
  refine bnd_congr fun a ρ1 => ?_
  rw [bind_app]
  refine bnd_congr fun n ρ2 => ?_
  rw [bind_app]
  refine bnd_congr fun b ρ3 => ?_
  rw [bind_app]
  refine bnd_congr fun n' ρ4 => ?_
  split
  · rfl
  · cases e1 : eltK a n with
    | none => rfl
    | some kd =>
      obtain ⟨k, d⟩ := kd
      cases e2 : eltK b n' with
      | none => rfl
      | some kd' =>
        obtain ⟨k', d'⟩ := kd'
        simp only []
        cases e3 : f [d, d'] with
        | ok r os => match os with
          | [] => rfl
          | [_] => rfl
          | [_, _] => rfl
          | _ :: _ :: _ :: _ => rfl
        | err _ => rfl
        | bad => rfl
end
theorem isi_str {x : Str} : oIsi "str" (.str x) = some (.bl true, .str x) := rfl
theorem isi_int {i : Int} : oIsi "str" (.int i) = some (.bl false, .int i) ∧ oIsi "int" (.int i) = some (.bl true, .int i) ∧ oIsi "bool" (.int i) = some (.bl false, .int i) := ⟨rfl, rfl, rfl⟩
theorem isi_lst {o : Bool} {xs : List D} : oIsi "str" (.lst o xs) = some (.bl false, .lst o xs) ∧ oIsi "int" (.lst o xs) = some (.bl false, .lst o xs) ∧ oIsi "dict" (.lst o xs) = some (.bl false, .lst o xs) ∧
    oIsi "tuple" (.lst o xs) = some (.bl false, .lst o xs) ∧ oIsi "list" (.lst o xs) = some (.bl true, .lst o xs) := ⟨rfl, rfl, rfl, rfl, rfl⟩
theorem isi_tup {xs : List D} : oIsi "str" (.tup xs) = some (.bl false, .tup xs) ∧ oIsi "int" (.tup xs) = some (.bl false, .tup xs) ∧ oIsi "dict" (.tup xs) = some (.bl false, .tup xs) ∧
    oIsi "tuple" (.tup xs) = some (.bl true, .tup xs) ∧ oIsi "list" (.tup xs) = some (.bl false, .tup xs) := ⟨rfl, rfl, rfl, rfl, rfl⟩
theorem same_str {n : Nat} {x : Str} (h : cpOk x = true) : m__law_same (n + 1) [.str x, .str x] = .ok (.bl true) [.str x, .str x] := by
  have e := oEq_ss h h
  refine def_rt (ρ' := [some (.str x), some (.str x), none, none]) ?_ (by simp [outsOf]) rfl (by simp)
  unfold b__law_same
  simp [Mir.envOf, isi_str, e]
theorem same_int {n : Nat} {i : Int} : m__law_same (n + 1) [.int i, .int i] = .ok (.bl true) [.int i, .int i] := by
  refine def_rt (ρ' := [some (.int i), some (.int i), none, none]) ?_ (by simp [outsOf]) rfl (by simp)
  unfold b__law_same
  simp [Mir.envOf, isi_int]
theorem bools_true {ys : List D} (h : ∀ y ∈ ys, y = .bl true) : boolsOf ys = some (ys.map fun _ => true) := by
  induction ys with
  | nil => rfl
  | cons y ys ih =>
    have e := h y List.mem_cons_self
    subst e
    show (boolsOf ys).map (true :: ·) = _
    rw [ih fun y hy => h y (List.mem_cons_of_mem _ hy)]
    rfl
theorem all_true {ys : List D} (h : ∀ y ∈ ys, y = .bl true) : oAll (.lst true ys) = some (.bl true, .lst true ys) := by
  have e : (ys.map fun _ => true).all id = true := by simp
  show (match boolsOf ys with
    | some bs => some (D.bl (bs.all id), D.lst true ys)
    | none => none) = _
  rw [bools_true h]
  simp only [e]
theorem ixN_nat {n k : Nat} (h : k < n) : ixN n (0 + (k : Int)) = some k := by unfold ixN; simp; omega
theorem set_same {xs : List D} {k : Nat} {d : D} (h : xs[k]? = some d) : xs.set k d = xs := by
  refine List.ext_getElem? fun i => ?_
  by_cases q : k = i
  · subst q
    rw [List.getElem?_set_self (ltE h), h]
  · rw [List.getElem?_set_ne q]
/-- rows of one kind -/
inductive Rw : D → List D → Prop
  | l {o : Bool} {xs : List D} : Rw (.lst o xs) xs
  | t {xs : List D} : Rw (.tup xs) xs
theorem Rw.elt {a : D} {xs : List D} {k : Nat} {d : D} (h : Rw a xs) (e : xs[k]? = some d) : eltK a (.int (0 + (k : Int))) = some (k, d) ∧ putE a k d = a := by
  cases h with
  | l =>
    rename_i o
    refine ⟨?_, ?_⟩
    · simp only [eltK, ixN_nat (ltE e), e]
    · cases o
      · rfl
      · show D.lst true (xs.set k d) = _
        rw [set_same e]
  | t =>
    refine ⟨?_, ?_⟩
    · simp only [eltK, ixN_nat (ltE e), e]
    · show D.tup (xs.set k d) = _
      rw [set_same e]
theorem same_loop {f : List D → FRes} {a b : D} {xs ys : List D} {m : Int} (hm : m.toNat = ys.length) (m0 : 0 ≤ m) (ha : Rw a xs) (hb : Rw b ys) (hl : xs.length = ys.length) (hz : ys.length ≤ 1000000) (hlb : oLen b = some (.int m, b)) (hxa : isx b = false)
    (h : ∀ (k : Nat) (x y : D), xs[k]? = some x → ys[k]? = some y → f [x, y] = .ok (.bl true) [x, y]) :
    ev1 (.tmp (lcR1 [3] (consM (ev1 (.slot 1) oLen) (pure [])) (stv 3) (pure true) (callE2 f 0 3 1 3))) oAll [some a, some b, none, none] = .ok (.bl true) [some a, some b, none, none] := by
  obtain ⟨zs, ρ2, e, eρ, hF⟩ := compM_run (vs := [3]) (tg := stv 3) (elt := callE2 f 0 3 1 3) (I := fun ρ => ρ = [some a, some b, none, none])
    (P := fun _ y => y = .bl true) (fun ρ e => by subst e; rfl) (rangeD 0 ys.length) [] [some a, some b, none, none] (fun d hd ρ e => by
      subst e
      unfold rangeD at hd
      obtain ⟨k, hk, rfl⟩ := List.mem_map.mp hd
      have hk' : k < ys.length := List.mem_range.mp hk
      obtain ⟨x, hx⟩ : ∃ x, xs[k]? = some x := ⟨_, List.getElem?_eq_getElem (by omega)⟩
      obtain ⟨y, hy⟩ : ∃ y, ys[k]? = some y := ⟨_, List.getElem?_eq_getElem hk'⟩
      have e1 := ha.elt hx
      have e2 := hb.elt hy
      have e3 := h k x y hx hy
      refine ⟨[some a, some b, none, some (.int (0 + (k : Int)))], .bl true, [some a, some b, none, some (.int (0 + (k : Int)))], by simp, ?_, rfl, rfl⟩
      rw [callE2_app]
      simp only [peek_def, List.getElem?_cons_zero, List.getElem?_cons_succ, bnd_ok, e1.1, e2.1, e3, e1.2, e2.2, List.set_cons_zero, List.set_cons_succ, show ¬ (0 : Nat) = 1 from by decide, if_false]) rfl (by rw [rangeD_len, sizeL]; simp; omega)
  subst eρ
  rw [List.nil_append] at e
  have hi : Mir.inR m = true := inR_of (by omega) (by omega)
  have ea := all_true (forall2_right hF)
  have e0 : consM (ev1 (.slot 1) oLen) (pure []) [some a, some b, none, none] = .ok [.int m] [some a, some b, none, none] := by simp [hlb, hxa]
  have q1 : lcR1 [3] (consM (ev1 (.slot 1) oLen) (pure [])) (stv 3) (pure true) (callE2 f 0 3 1 3) [some a, some b, none, none] = .ok (.lst true zs) [some a, some b, none, none] := by
    rw [lcR1_app, e0, bnd_ok]
    show (if Mir.inR m = true then lcR [3] 0 m.toNat (stv 3) (pure true) (callE2 f 0 3 1 3) [some a, some b, none, none] else .bad) = _
    rw [if_pos hi, lcR_app, hm]
    show (noX (compM [3] (stv 3) (pure true) (callE2 f 0 3 1 3) (rangeD 0 ys.length) []) [some a, some b, none, none]).bnd _ = _
    rw [e, bnd_ok]
  rw [ev1_tmp, q1, bnd_ok, ea]
theorem ret_and {f g : M D} {ρ ρ1 ρ2 : Mir.Env} {d : D} (h : f ρ = .ok (.bl true) ρ1) (k : g ρ1 = .ok d ρ2) : retM (andV f g) ρ = .ok (.rt d) ρ2 := by
  rw [retM_app, andV_app, asB_app, h]
  simp [k]
theorem same_lst {n : Nat} {o o' : Bool} {xs ys : List D} (hl : xs.length = ys.length) (hz : ys.length ≤ 1000000) (h : ∀ (k : Nat) (x y : D), xs[k]? = some x → ys[k]? = some y → m__law_same n [x, y] = .ok (.bl true) [x, y]) :
    m__law_same (n + 1) [.lst o xs, .lst o' ys] = .ok (.bl true) [.lst o xs, .lst o' ys] := by
  refine def_rt (ρ' := [some (.lst o xs), some (.lst o' ys), none, none]) ?_ (by simp [outsOf]) rfl (by simp)
  have e := same_loop (m := (ys.length : Nat)) (f := m__law_same n) (a := .lst o xs) (b := .lst o' ys) (by omega) (by omega) .l .l hl hz rfl rfl h
  unfold b__law_same
  refine seq_step (ρ1 := [some (.lst o xs), some (.lst o' ys), none, none]) (by simp [Mir.envOf, isi_lst]) ?_
  refine seq_step (ρ1 := [some (.lst o xs), some (.lst o' ys), none, none]) (by simp [Mir.envOf, isi_lst]) ?_
  refine seq_step (ρ1 := [some (.lst o xs), some (.lst o' ys), none, none]) (by simp [Mir.envOf, isi_lst]) ?_
  refine seq_step (ρ1 := [some (.lst o xs), some (.lst o' ys), none, none]) (by simp [Mir.envOf, isi_lst]) ?_
  refine seq_step (ρ1 := [some (.lst o xs), some (.lst o' ys), none, none]) (by simp [isi_lst]) ?_
  exact ret_and (ρ1 := [some (.lst o xs), some (.lst o' ys), none, none]) (by simp [hl]) e
theorem same_tup {n : Nat} {xs ys : List D} (hl : xs.length = ys.length) (hz : ys.length ≤ 1000000) (h : ∀ (k : Nat) (x y : D), xs[k]? = some x → ys[k]? = some y → m__law_same n [x, y] = .ok (.bl true) [x, y]) :
    m__law_same (n + 1) [.tup xs, .tup ys] = .ok (.bl true) [.tup xs, .tup ys] := by
  refine def_rt (ρ' := [some (.tup xs), some (.tup ys), none, none]) ?_ (by simp [outsOf]) rfl (by simp)
  have e := same_loop (m := (ys.length : Nat)) (f := m__law_same n) (a := .tup xs) (b := .tup ys) (by omega) (by omega) .t .t hl hz rfl rfl h
  unfold b__law_same
  refine seq_step (ρ1 := [some (.tup xs), some (.tup ys), none, none]) (by simp [Mir.envOf, isi_tup]) ?_
  refine seq_step (ρ1 := [some (.tup xs), some (.tup ys), none, none]) (by simp [Mir.envOf, isi_tup]) ?_
  refine seq_step (ρ1 := [some (.tup xs), some (.tup ys), none, none]) (by simp [Mir.envOf, isi_tup]) ?_
  refine seq_step (ρ1 := [some (.tup xs), some (.tup ys), none, none]) (by simp [Mir.envOf, isi_tup]) ?_
  refine seq_step (ρ1 := [some (.tup xs), some (.tup ys), none, none]) (by simp [isi_tup]) ?_
  exact ret_and (ρ1 := [some (.tup xs), some (.tup ys), none, none]) (by simp [hl]) e
theorem same_row {n : Nat} {o o' : Bool} {row : List Str} (h : RowOk row) : m__law_same (n + 2) [rowD o row, rowD o' row] = .ok (.bl true) [rowD o row, rowD o' row] := by
  refine same_lst rfl (by rw [List.length_map]; have := h.2.1; omega) fun k x y hx hy => ?_
  rw [hx] at hy
  cases hy
  obtain ⟨w, hw, rfl⟩ := List.mem_map.mp (List.mem_of_getElem? hx)
  exact same_str (h.2.2 w hw).1.cp
theorem same_rows {o o' p p' : Bool} {rows : List (List Str)} (h : ∀ row ∈ rows, RowOk row) (hn : rows.length ≤ 60) : m__law_same 4 [rowsD o o' rows, rowsD p p' rows] = .ok (.bl true) [rowsD o o' rows, rowsD p p' rows] := by
  refine same_lst (n := 3) (by rw [List.length_map, List.length_map]) (by rw [List.length_map]; omega) fun k x y hx hy => ?_
  rw [List.getElem?_map] at hx hy
  cases q : rows[k]? with
  | none => rw [q] at hx; cases hx
  | some row =>
    rw [q] at hx hy
    cases hx
    cases hy
    exact same_row (n := 1) (h row (List.mem_of_getElem? q))
theorem same_fault {k : Int} : m__law_same 4 [faultD k, faultD k] = .ok (.bl true) [faultD k, faultD k] := by
  refine same_tup (n := 3) rfl (by simp) fun i x y hx hy => ?_
  match i with
  | 0 => cases hx; cases hy; exact same_str (by decide +kernel)
  | 1 => cases hx; cases hy; exact same_int
  | i + 2 => simp at hx
end K00
end
section
set_option Elab.async false
set_option linter.all false
set_option maxRecDepth 100000
set_option maxHeartbeats 4000000
namespace K00
open PySem PySem.Spec PyProof.Rows L2 Mir
abbrev em : Str := PySem.Str.ofString ""
theorem cl_em : cl em = [] := by decide +kernel
def Fine (x : Str) : Prop := x.length ≤ 2000 ∧ 10 ∉ cl x ∧ ∀ c ∈ cl x, c < 1114112
def Bad (x : Str) : Prop := LW x = none ∧ Fine x
theorem line_fine {row : List Str} (h : RowOk row) : Fine (lineOf row) := ⟨by have := line_len h; omega, line_free h, line_lt h⟩
theorem not_word_em : ¬ WordOk em := fun h => h.1 cl_em
theorem bad_ws {x : Str} {ws : List Str} (hm : em ∈ ws) (hf : ∀ w ∈ ws, 32 ∉ cl w) (h : cl x = jl 32 (ws.map cl)) : LW x = none := by
  have e : Txt.split x sp = ws := split_unique (c := 32) (fun z => by rw [z] at hm; cases hm) hf h
  unfold LW
  rw [e, if_neg fun q => not_word_em (q em hm)]
theorem bad_sign {x : Str} {c : Nat} (hc : c ∈ cl x) (h1 : c ∉ sgs) (h2 : c ≠ 32) : LW x = none := by
  unfold LW
  rw [if_neg]
  intro q
  have h : Str.join sp (Txt.split x sp) = x := StrLaws.join_split x sp
  rw [← h, show sp = ⟨#[32]⟩ from rfl, join_cl] at hc
  rcases mem_jl hc with e | ⟨p, hp, hc'⟩
  · exact h2 e
  · obtain ⟨w, hw, rfl⟩ := List.mem_map.mp hp
    exact h1 ((q w hw).2 c hc')
theorem row_free {row : List Str} (h : RowOk row) : ∀ w ∈ row, 32 ∉ cl w := fun w hw z => (sgs_lt 32 ((h.2.2 w hw).1.2 32 z)).2.1 rfl
theorem jl_end (c : Nat) : ∀ ps : List (List Nat), ps ≠ [] → jl c (ps ++ [[]]) = jl c ps ++ [c]
  | [], h => absurd rfl h
  | [p], _ => rfl
  | p :: q :: r, _ => by
    have ih := jl_end c (q :: r) (by simp)
    show p ++ c :: jl c ((q :: r) ++ [[]]) = (p ++ c :: jl c (q :: r)) ++ [c]
    rw [ih]
    simp
theorem fine_of {x : Str} (hl : x.length ≤ 2000) (h : ∀ c ∈ cl x, c < 128 ∧ c ≠ 10) : Fine x := ⟨hl, fun z => (h 10 z).2 rfl, fun c hc => by have := (h c hc).1; omega⟩
theorem line_ok {row : List Str} (h : RowOk row) : ∀ c ∈ cl (lineOf row), c < 128 ∧ c ≠ 10 := fun c z => by
  rcases line_mem h z with e | e
  · omega
  · have := sgs_lt c e; exact ⟨this.1, this.2.2⟩
theorem len_app (a b : Str) : (a ++ b).length = a.length + b.length := by rw [← cl_len, cl_app, List.length_append, cl_len, cl_len]
theorem bad1 {row : List Str} (h : RowOk row) : Bad (lineOf row ++ sp) := by
  refine ⟨bad_ws (ws := row ++ [em]) (by simp) (fun w hw => ?_) ?_, fine_of ?_ fun c hc => ?_⟩
  · rcases List.mem_append.mp hw with hw | hw
    · exact row_free h w hw
    · rw [List.mem_singleton] at hw; subst hw; rw [cl_em]; simp
  · rw [cl_app, cl_sp, line_cl, List.map_append, List.map_singleton, cl_em, jl_end _ _ (by simpa using h.1)]
  · have := line_len h
    have e : sp.length = 1 := rfl
    rw [len_app, e]; omega
  · rw [cl_app, cl_sp] at hc
    rcases List.mem_append.mp hc with hc | hc
    · exact line_ok h c hc
    · rw [List.mem_singleton] at hc; omega
theorem bad2 {row : List Str} (h : RowOk row) : Bad (sp ++ lineOf row) := by
  refine ⟨bad_ws (ws := em :: row) (by simp) (fun w hw => ?_) ?_, fine_of ?_ fun c hc => ?_⟩
  · rcases List.mem_cons.mp hw with hw | hw
    · subst hw; rw [cl_em]; simp
    · exact row_free h w hw
  · rw [cl_app, cl_sp, line_cl, List.map_cons, cl_em]
    cases hq : row.map cl with
    | nil => exact absurd (by simpa using hq) h.1
    | cons p r => rfl
  · have := line_len h
    have e : sp.length = 1 := rfl
    rw [len_app, e]; omega
  · rw [cl_app, cl_sp] at hc
    rcases List.mem_append.mp hc with hc | hc
    · rw [List.mem_singleton] at hc; omega
    · exact line_ok h c hc
theorem bad3 : Bad em := by
  refine ⟨bad_ws (ws := [em]) (by simp) (fun w hw => ?_) ?_, fine_of (by decide) fun c hc => ?_⟩
  · rw [List.mem_singleton] at hw; subst hw; rw [cl_em]; simp
  · rw [List.map_singleton, cl_em]; rfl
  · rw [cl_em] at hc; cases hc
theorem bad0 {row : List Str} (h : RowOk row) (n : Nat) : Bad (lineOf (row.take n ++ [em] ++ row.drop n)) := by
  have hm : ∀ w ∈ row.take n ++ [em] ++ row.drop n, w ∈ row ∨ w = em := fun w hw => by
    rcases List.mem_append.mp hw with hw | hw
    · rcases List.mem_append.mp hw with hw | hw
      · exact .inl (List.mem_of_mem_take hw)
      · exact .inr (List.mem_singleton.mp hw)
    · exact .inl (List.mem_of_mem_drop hw)
  refine ⟨bad_ws (ws := row.take n ++ [em] ++ row.drop n) (by simp) (fun w hw => ?_) (line_cl _), fine_of ?_ fun c hc => ?_⟩
  · rcases hm w hw with hw | hw
    · exact row_free h w hw
    · subst hw; rw [cl_em]; simp
  · have := join_len (x := sp) (ws := row.take n ++ [em] ++ row.drop n) (B := 60) (n := 13) (fun w hw => by
      rcases hm w hw with hw | hw
      · exact (h.2.2 w hw).2
      · subst hw; decide) (by
        have := h.2.1
        simp only [List.length_append, List.length_take, List.length_drop, List.length_singleton]
        omega)
    have e : sp.length = 1 := rfl
    rw [e] at this
    unfold lineOf
    omega
  · rw [line_cl] at hc
    rcases mem_jl hc with e | ⟨p, hp, hc⟩
    · omega
    · obtain ⟨w, hw, rfl⟩ := List.mem_map.mp hp
      rcases hm w hw with hw | hw
      · have := sgs_lt c ((h.2.2 w hw).1.2 c hc)
        exact ⟨this.1, this.2.2⟩
      · subst hw; rw [cl_em] at hc; cases hc
abbrev fs : Str := PySem.Str.ofString "ABCDEFGHIJKLMNOPQRSTUVWXYZ_.;!?/=+*()[]{}<#$&'@^~|\t\"\\"
theorem fs_len : (cl fs).length = 53 := by decide +kernel
theorem fs_fine : ∀ c ∈ cl fs, c < 128 ∧ c ∉ sgs ∧ c ≠ 32 ∧ c ≠ 10 := by decide +kernel
theorem foreign_ok {s : D} (hs : IsS s) : ∃ c s', IsS s' ∧ c ∈ cl fs ∧ m__law_a_foreign [s] = .ok (.str ⟨#[c]⟩) [s'] := by
  obtain ⟨r, s', hs', r0, r1, ep⟩ := pick_ok hs (many := 53) (by omega) (by omega)
  obtain ⟨c, ec, hc⟩ := atI_lt (l := cl fs) r0 (by rw [fs_len]; exact r1)
  have ei := oIx_str (x := fs) (i := r) (by decide +kernel) ec
  refine ⟨c, s', hs', hc, def_rt (ρ' := [some s']) ?_ (by simp [outsOf]) rfl (by simp [isS_isx hs])⟩
  unfold g__law_a_foreign
  simp [Mir.envOf, ep, isS_isx hs', ei]
theorem cl_cut (z : Str) (lo hi : Option Int) : cl (cutS z lo hi) = cutL (cl z) lo hi := by
  unfold cutS cutL
  rw [cl_len]
  simp [cl]
theorem cut_take {α : Type} {xs : List α} {n : Nat} (h : n ≤ xs.length) : cutL xs none (some (n : Int)) = xs.take n := by
  unfold cutL
  rw [HT.sIx_nat, HT.sIx_none, Nat.min_eq_left h, List.drop_zero, Nat.sub_zero]
theorem cut_drop {α : Type} {xs : List α} {n : Nat} (h : n ≤ xs.length) : cutL xs (some (n : Int)) none = xs.drop n := by
  unfold cutL
  rw [HT.sIx_nat, HT.sIx_none, Nat.min_eq_left h, List.take_of_length_le]
  rw [List.length_drop]
  omega
theorem bad4 {row : List Str} (h : RowOk row) {n : Nat} (hn : n ≤ (lineOf row).length) {c : Nat} (hc : c ∈ cl fs) : Bad (cutS (lineOf row) none (some (n : Int)) ++ ⟨#[c]⟩ ++ cutS (lineOf row) (some (n : Int)) none) := by
  have e : cl (cutS (lineOf row) none (some (n : Int)) ++ ⟨#[c]⟩ ++ cutS (lineOf row) (some (n : Int)) none) = (cl (lineOf row)).take n ++ [c] ++ (cl (lineOf row)).drop n := by
    rw [cl_app, cl_app, cl_cut, cl_cut, cut_take (by rw [cl_len]; exact hn), cut_drop (by rw [cl_len]; exact hn)]
    rfl
  have hf := fs_fine c hc
  refine ⟨bad_sign (c := c) (by rw [e]; simp) hf.2.1 hf.2.2.1, fine_of ?_ fun d hd => ?_⟩
  · rw [← cl_len, e]
    have := line_len h
    rw [← cl_len] at this
    simp only [List.length_append, List.length_take, List.length_drop, List.length_singleton]
    omega
  · rw [e] at hd
    rcases List.mem_append.mp hd with hd | hd
    · rcases List.mem_append.mp hd with hd | hd
      · exact line_ok h d (List.mem_of_mem_take hd)
      · rw [List.mem_singleton] at hd; subst hd; exact ⟨hf.1, hf.2.2.2⟩
    · exact line_ok h d (List.mem_of_mem_drop hd)
end K00
end
section
set_option Elab.async false
set_option linter.all false
set_option maxRecDepth 100000
set_option maxHeartbeats 4000000
namespace K00
open PySem PySem.Spec PyProof.Rows L2 Mir
theorem sl_take {row : List Str} {n : Nat} (h : n ≤ row.length) : oSl (rowD false row) none (some (n : Int)) = some (rowD true (row.take n), rowD false row) := by
  unfold oSl
  simp only []
  rw [fzL_strs, cut_take (by rw [List.length_map]; exact h), ← List.map_take]
theorem sl_drop {row : List Str} {n : Nat} (h : n ≤ row.length) : oSl (rowD false row) (some (n : Int)) none = some (rowD true (row.drop n), rowD false row) := by
  unfold oSl
  simp only []
  rw [fzL_strs, cut_drop (by rw [List.length_map]; exact h), ← List.map_drop]
theorem sl_str {x : Str} (h : x.length ≤ 2000) (lo hi : Option Int) : oSl (.str x) lo hi = some (.str (cutS x lo hi), .str x) := by
  unfold oSl
  simp only []
  rw [if_pos (by rw [sizeL]; omega)]
theorem plus_l {a b : List Str} {o o' : Bool} (h : a.length + b.length ≤ 1000) : oPlus (rowD o a) (rowD o' b) = some (rowD true (a ++ b), rowD o a, rowD o' b) := by
  show (match oAdd (rowD o a) (rowD o' b) with | some p => some p | none => _) = _
  show (if (a.map D.str).length + (b.map D.str).length ≤ sizeLine then some (D.lst true (fzL (a.map D.str) ++ fzL (b.map D.str)), D.lst o (fzL (a.map D.str)), D.lst o' (fzL (b.map D.str))) else none) = _
  rw [if_pos (by rw [List.length_map, List.length_map, sizeL]; omega), fzL_strs, fzL_strs, ← List.map_append]
theorem wrong_ok {s : D} (hs : IsS s) {row : List Str} (hr : RowOk row) {k : Int} (k0 : 0 ≤ k) (k1 : k ≤ 4) :
    ∃ x s', IsS s' ∧ Bad x ∧ m__law_a_wrong [s, rowD false row, .int k] = .ok (.str x) [s', .non, .non] := by
  have hx := isS_isx hs
  have ej := line_join (o := false) hr
  have hl := line_len hr
  have hrl := hr.2.1
  have hrp : 1 ≤ row.length := List.length_pos_iff.mpr hr.1
  have st : asgM (evM1 (pure (.str (PySem.Str.ofString " "))) (.slot 1) oJoin) (stv 3) (Mir.envOf 5 [s, rowD false row, .int k]) = .ok .nx [some s, some (rowD false row), some (.int k), some (.str (lineOf row)), none] := by
    simp [Mir.envOf, ej]
  have e1 : (PySem.Str.ofString " ").length = 1 := rfl
  have skip : ∀ (j : Int) (t : M Flw), k ≠ j → ifM (asB (ev2 (.slot 2) (.tmp (pure (.int j))) oEq)) t (pure .nx) [some s, some (rowD false row), some (.int k), some (.str (lineOf row)), none] = .ok .nx [some s, some (rowD false row), some (.int k), some (.str (lineOf row)), none] := fun j t h => by
    simp [h]
  have take : ∀ (j : Int) (t : M Flw), k = j → ifM (asB (ev2 (.slot 2) (.tmp (pure (.int j))) oEq)) t (pure .nx) [some s, some (rowD false row), some (.int k), some (.str (lineOf row)), none] = t [some s, some (rowD false row), some (.int k), some (.str (lineOf row)), none] := fun j t h => by
    simp [h]
  have hxr : isx (rowD false row) = false := rfl
  by_cases c0 : k = 0
  · obtain ⟨r, s', hs', r0, r1, ep⟩ := pick_ok hs (many := (row.length : Nat)) (by omega) (by omega)
    obtain ⟨n, rfl⟩ : ∃ n : Nat, r = n := ⟨r.toNat, by omega⟩
    have hn : n ≤ row.length := by omega
    have p1 := plus_l (a := row.take n) (b := [em]) (o := true) (o' := true) (by simp [List.length_take]; omega)
    have p2 := plus_l (a := row.take n ++ [em]) (b := row.drop n) (o := true) (o' := true) (by simp [List.length_take, List.length_drop]; omega)
    have hx' := isS_isx hs'
    have jj : oJoin (.str sp) (rowD true (row.take n ++ [em] ++ row.drop n)) = some (.str (lineOf (row.take n ++ [em] ++ row.drop n)), .str sp, rowD true (row.take n ++ [em] ++ row.drop n)) := by
      refine oJoin_ok ?_
      have h1 := sum_le (ws := row.take n ++ [em] ++ row.drop n) (B := 60) fun w hw => by
        rcases List.mem_append.mp hw with hw | hw
        · rcases List.mem_append.mp hw with hw | hw
          · exact (hr.2.2 w (List.mem_of_mem_take hw)).2
          · rw [List.mem_singleton] at hw; subst hw; decide
        · exact (hr.2.2 w (List.mem_of_mem_drop hw)).2
      have h2 : (row.take n ++ [em] ++ row.drop n).length ≤ 20 := by simp [List.length_take, List.length_drop]; omega
      have e : sp.length = 1 := rfl
      rw [e]
      omega
    refine ⟨_, s', hs', bad0 hr n, def_rt (ρ' := [some s', some (rowD false row), some (.int k), some (.str (lineOf row)), some (.int (n : Nat))]) ?_ (by simp [outsOf]) rfl (by simp [hx])⟩
    refine seq_step st (seq_ret ?_)
    rw [take 0 _ c0]
    refine seq_step (ρ1 := [some s', some (rowD false row), some (.int k), some (.str (lineOf row)), some (.int (n : Nat))]) ?_ ?_
    · simp [ep, hx']
    · have q1 := sl_take hn
      have q2 := sl_drop hn
      rw [retM_app, evM1_pt]
      have z : ev2 (.tmp (ev2 (.tmp (evS (.slot 1) none (some (rdv 4)) oSl)) (.tmp (lstM (consM (pure (.str (PySem.Str.ofString ""))) (pure [])))) oPlus)) (.tmp (evS (.slot 1) (some (rdv 4)) none oSl)) oPlus
          [some s', some (rowD false row), some (.int k), some (.str (lineOf row)), some (.int (n : Nat))] = .ok (rowD true (row.take n ++ [em] ++ row.drop n)) [some s', some (rowD false row), some (.int k), some (.str (lineOf row)), some (.int (n : Nat))] := by
        rw [ev2_tt, ev2_tt, evS_slot]
        have p1' : oPlus (rowD true (row.take n)) (.lst true [.str em]) = some (rowD true (row.take n ++ [em]), rowD true (row.take n), rowD true [em]) := p1
        simp [q1, q2, p1', p2, sizeL]
      rw [z, bnd_ok, jj]
      rfl
  by_cases c1 : k = 1
  · have p := oPlus_ss (x := lineOf row) (y := PySem.Str.ofString " ") (by rw [sizeL, e1]; omega)
    refine ⟨_, s, hs, bad1 hr, def_rt (ρ' := [some s, some (rowD false row), some (.int k), some (.str (lineOf row)), none]) ?_ (by simp [outsOf]) rfl (by simp [hx])⟩
    refine seq_step st (seq_step (skip 0 _ c0) (seq_ret ?_))
    rw [take 1 _ c1]
    simp [p]
  by_cases c2 : k = 2
  · have p := oPlus_ss (x := PySem.Str.ofString " ") (y := lineOf row) (by rw [sizeL, e1]; omega)
    refine ⟨_, s, hs, bad2 hr, def_rt (ρ' := [some s, some (rowD false row), some (.int k), some (.str (lineOf row)), none]) ?_ (by simp [outsOf]) rfl (by simp [hx])⟩
    refine seq_step st (seq_step (skip 0 _ c0) (seq_step (skip 1 _ c1) (seq_ret ?_)))
    rw [take 2 _ c2]
    simp [p]
  by_cases c3 : k = 3
  · refine ⟨_, s, hs, bad3, def_rt (ρ' := [some s, some (rowD false row), some (.int k), some (.str (lineOf row)), none]) ?_ (by simp [outsOf]) rfl (by simp [hx])⟩
    refine seq_step st (seq_step (skip 0 _ c0) (seq_step (skip 1 _ c1) (seq_step (skip 2 _ c2) (seq_ret ?_))))
    rw [take 3 _ c3]
    simp
  · obtain ⟨r, s', hs', r0, r1, ep⟩ := pick_ok hs (many := ((lineOf row).length : Int) + 1) (by omega) (by omega)
    obtain ⟨n, rfl⟩ : ∃ n : Nat, r = n := ⟨r.toNat, by omega⟩
    have hn : n ≤ (lineOf row).length := by omega
    obtain ⟨c, s2, hs2, hc, ef⟩ := foreign_ok hs'
    have hx' := isS_isx hs'
    have hx2 := isS_isx hs2
    have q1 := sl_str (x := lineOf row) (by omega) none (some (n : Int))
    have q2 := sl_str (x := lineOf row) (by omega) (some (n : Int)) none
    have b4 := bad4 hr hn hc
    refine ⟨_, s2, hs2, b4, def_rt (ρ' := [some s2, some (rowD false row), some (.int k), some (.str (lineOf row)), some (.int (n : Nat))]) ?_ (by simp [outsOf]) rfl (by simp [hx])⟩
    refine seq_step st (seq_step (skip 0 _ c0) (seq_step (skip 1 _ c1) (seq_step (skip 2 _ c2) (seq_step (skip 3 _ c3) ?_))))
    have el : oLen (.str (lineOf row)) = some (.int ((lineOf row).length : Nat), .str (lineOf row)) := by
      unfold oLen
      simp only []
      rw [if_pos (by rw [sizeL]; omega)]
    refine seq_step (ρ1 := [some s', some (rowD false row), some (.int k), some (.str (lineOf row)), some (.int (n : Nat))]) ?_ ?_
    · simp [el, ep, hx']
    · have b5 := b4.2.1
      rw [len_app, len_app] at b5
      have p1 := oPlus_ss (x := cutS (lineOf row) none (some (n : Int))) (y := ⟨#[c]⟩) (by rw [sizeL]; omega)
      have p2 := oPlus_ss (x := cutS (lineOf row) none (some (n : Int)) ++ ⟨#[c]⟩) (y := cutS (lineOf row) (some (n : Int)) none) (by rw [sizeL, len_app]; omega)
      simp [q1, q2, ef, hx2, p1, p2]
end K00
end
section
set_option Elab.async false
set_option linter.all false
set_option maxRecDepth 100000
set_option maxHeartbeats 4000000
namespace K00
open PySem PySem.Spec PyProof.Rows L2 Mir
theorem em_eq : em = (⟨#[]⟩ : Str) := str_ext cl_em
theorem fine_text {L : List Str} (h : ∀ l ∈ L, Fine l) (hn : L.length ≤ 60) : LineFine (textOf L) ∧ (textOf L).length ≤ 130000 := by
  have ht := text_len (fun l hl => (h l hl).1) hn
  exact ⟨⟨by omega, text_cp fun l hl => (h l hl).2.2⟩, ht⟩
theorem scan_of {t : Str} (hf : LineFine t) (hl : t.length ≤ 900000) {ini : List Str} {lst : Str} (hs : Txt.split t nl = ini ++ [lst]) {n : Nat} (e : (scanT ini lst).2 = true) (e1 : (scanT ini lst).1.length = n) :
    m__law_a_scan [.str t] = .ok (.tup [.non, faultD ((n : Int) + 1)]) [.non] := by
  rw [scan_is hf hl hs, if_pos e, e1]
theorem full_scan {rs : List (List Str)} {x : Str} {rest L : List Str} (eL : L = rs.map lineOf ++ x :: rest) (hr : ∀ r ∈ rs, RowOk r) (hx : LW x = none) (h : ∀ l ∈ L, Fine l) (hn : L.length ≤ 60) :
    m__law_a_scan [.str (textOf L)] = .ok (.tup [.non, faultD ((rs.length : Int) + 1)]) [.non] := by
  obtain ⟨hf, hl⟩ := fine_text h hn
  refine scan_of hf (by omega) (text_split fun l hl => (h l hl).2.1) ?_ ?_
  · unfold scanT
    rw [eL, scan_bad hr hx]
    simp
  · unfold scanT
    rw [eL, scan_bad hr hx]
    simp
theorem cut_text {L : List Str} (h : ∀ l ∈ L, Fine l) (hn : L.length ≤ 60) : LineFine (cutS (textOf L) none (some (-1))) ∧ (cutS (textOf L) none (some (-1))).length ≤ 900000 ∧ cl (cutS (textOf L) none (some (-1))) = (cl (textOf L)).dropLast := by
  obtain ⟨hf, hl⟩ := fine_text h hn
  have e : cl (cutS (textOf L) none (some (-1))) = (cl (textOf L)).dropLast := by rw [cl_cut, cut_init]
  have hlen : (cutS (textOf L) none (some (-1))).length ≤ 130000 := by
    rw [← cl_len, e, List.length_dropLast, cl_len]
    omega
  refine ⟨⟨by omega, cpOk_of fun c hc => ?_⟩, by omega, e⟩
  rw [e] at hc
  have hc' := List.dropLast_subset _ hc
  have := hf.2
  unfold cpOk at this
  rw [← Array.all_toList, List.all_eq_true] at this
  exact of_decide_eq_true (this c hc')
theorem cutA {rs : List (List Str)} {x : Str} {L : List Str} (eL : L = rs.map lineOf ++ [x]) (hr : ∀ r ∈ rs, RowOk r) (hx : x ≠ em) (h : ∀ l ∈ L, Fine l) (hn : L.length ≤ 60) :
    m__law_a_scan [.str (cutS (textOf L) none (some (-1)))] = .ok (.tup [.non, faultD ((rs.length : Int) + 1)]) [.non] := by
  obtain ⟨hf, hl, e⟩ := cut_text h hn
  have hs : Txt.split (cutS (textOf L) none (some (-1))) nl = rs.map lineOf ++ [x] := by
    rw [← eL]
    exact cut_split (by rw [eL]; simp) (fun l hl => (h l hl).2.1) e
  rw [em_eq] at hx
  refine scan_of hf hl hs ?_ ?_
  · unfold scanT
    rw [scan_good hr]
    simp [hx]
  · unfold scanT
    rw [scan_good hr]
    simp
theorem cutB {rs : List (List Str)} {x z : Str} {rest L : List Str} (eL : L = rs.map lineOf ++ x :: (rest ++ [z])) (hr : ∀ r ∈ rs, RowOk r) (hx : LW x = none) (h : ∀ l ∈ L, Fine l) (hn : L.length ≤ 60) :
    m__law_a_scan [.str (cutS (textOf L) none (some (-1)))] = .ok (.tup [.non, faultD ((rs.length : Int) + 1)]) [.non] := by
  obtain ⟨hf, hl, e⟩ := cut_text h hn
  have hs : Txt.split (cutS (textOf L) none (some (-1))) nl = (rs.map lineOf ++ x :: rest) ++ [z] := by
    have e2 : (rs.map lineOf ++ x :: rest) ++ [z] = L := by rw [eL]; simp
    rw [e2]
    exact cut_split (by rw [eL]; simp) (fun l hl => (h l hl).2.1) e
  refine scan_of hf hl hs ?_ ?_
  · unfold scanT
    rw [scan_bad hr hx]
    simp
  · unfold scanT
    rw [scan_bad hr hx]
    simp
theorem scan_em : m__law_a_scan [.str em] = .ok (.tup [.non, faultD 1]) [.non] := by
  have hs : Txt.split em nl = [] ++ [em] := split_unique (c := 10) (by simp) (fun w hw => by
    rw [List.nil_append, List.mem_singleton] at hw
    subst hw
    rw [cl_em]
    simp) (by rw [cl_em, List.nil_append, List.map_singleton, cl_em]; rfl)
  have := scan_of (t := em) (n := 0) ⟨by decide, by decide +kernel⟩ (by decide) hs (by unfold scanT scanF; simp) (by unfold scanT scanF; simp)
  simpa using this
/-- what the spoilt lines are -/
theorem set_split {rows : List (List Str)} {n : Nat} {x : Str} (h : n < rows.length) : (rows.map lineOf).set n x = (rows.take n).map lineOf ++ x :: (rows.drop (n + 1)).map lineOf := by
  rw [List.set_eq_take_append_cons_drop, if_pos (by rw [List.length_map]; exact h), List.map_take, List.map_drop]
theorem take_ok {rows : List (List Str)} (h : ∀ r ∈ rows, RowOk r) (n : Nat) : ∀ r ∈ rows.take n, RowOk r := fun r hr => h r (List.mem_of_mem_take hr)
theorem last_split {rows : List (List Str)} (hne : rows ≠ []) : rows.map lineOf = (rows.take (rows.length - 1)).map lineOf ++ [lineOf (rows.getLast hne)] := by
  rw [← List.dropLast_eq_take, ← List.map_singleton (f := lineOf), ← List.map_append, List.dropLast_concat_getLast]
theorem line_ne {row : List Str} (h : RowOk row) : lineOf row ≠ em := fun z => by
  have e := lw_row h
  rw [z, bad3.1] at e
  cases e
end K00
end
section
set_option Elab.async false
set_option linter.all false
set_option maxRecDepth 100000
set_option maxHeartbeats 4000000
namespace K00
open PySem PySem.Spec PyProof.Rows L2 Mir
theorem many_made {s : D} (hs : IsS s) : ∃ m s2, IsS s2 ∧ 1 ≤ m ∧ m ≤ 60 ∧ asgM (ifV (asB (ev2 (.tmp (callM m__law_pick [.slot 1, .tmp (pure (.int 12))])) (.tmp (pure (.int 0))) oEq)) (pure (.int 60)) (ev2 (.tmp (pure (.int 1))) (.tmp (callM m__law_pick [.slot 1, .tmp (pure (.int 12))])) oPlus)) (stv 2)
    [none, some (s), none, none, none, none, none, none, none, none, none, none, none, none, none, none] = .ok .nx [none, some (s2), some (.int m), none, none, none, none, none, none, none, none, none, none, none, none, none] := by
  obtain ⟨r1, s1, hs1, a1, b1, e1⟩ := pick_ok hs (many := 12) (by omega) (by omega)
  have x1 := isS_isx hs1
  by_cases h : r1 = 0
  · subst h
    exact ⟨60, s1, hs1, by omega, by omega, by simp [e1, x1]⟩
  · obtain ⟨r2, s2, hs2, a2, b2, e2⟩ := pick_ok hs1 (many := 12) (by omega) (by omega)
    have x2 := isS_isx hs2
    exact ⟨1 + r2, s2, hs2, by omega, by omega, by simp [e1, x1, h, e2, x2]⟩
theorem step5 {s t3 t4 t5 : D} {m : Int} {x : Str} {a5 a6 : Option D} {a7 a8 a9 a10 a11 a12 : Option D} (h4 : isx t4 = false) (h5 : isx t5 = false) (eL : m__law_a_lines [t4] = .ok (.str x) [t4]) (eS : m__law_a_scan [.str x] = .ok (.tup [t5, .non]) [.non]) :
    asgM (callM m__law_a_scan [.tmp (callM m__law_a_lines [.slot 4])]) (fun d => match d with | .tup ds => (if ds.length = 2 then (fun ds => match ds with | d :: r => (do (stv 5) d; (fun ds => match ds with | d :: r => (do (stv 6) d; (fun ds => match ds with | [] => pure () | _ => badM) r) | [] => badM) r) | [] => badM) ds else badM) | _ => badM) [none, some s, some (.int m), some t3, some t4, a5, a6, a7, a8, a9, a10, a11, a12, none, none, none] = .ok .nx [none, some s, some (.int m), some t3, some t4, some t5, some .non, a7, a8, a9, a10, a11, a12, none, none, none] := by
  simp [eL, eS, h4, h5, noX_app]
theorem step6 {s t3 t4 t5 : D} {m : Int} (h3 : isx t3 = false) (h5 : isx t5 = false) (es : m__law_same 4 [t5, t3] = .ok (.bl true) [t5, t3]) :
    ifM (orT (asB (ev2 (.slot 6) (.tmp (pure .non)) oIsNot)) (notT (evT (.tmp (callM (m__law_same 4) [.slot 5, .slot 3]))))) (retM (pure (.bl false))) (pure .nx) [none, some (s), some (.int m), some (t3), some (t4), some (t5), some (.non), none, none, none, none, none, none, none, none, none] = .ok .nx [none, some (s), some (.int m), some (t3), some (t4), some (t5), some (.non), none, none, none, none, none, none, none, none, none] := by
  simp [es, h3, h5]
theorem step7 {s t3 t4 : D} {m : Int} {r : List Str} {rs : List (List Str)} (h1 : r.length ≤ 6) (h2 : rs.length ≤ 60) : ∃ zs : List D, zs.length ≤ 100 ∧
    dropM (appE 5 0 (pure (.str (PySem.Str.ofString "more")))) [none, some (s), some (.int m), some (t3), some (t4), some (rowsD true true (r :: rs)), some (.non), none, none, none, none, none, none, none, none, none] = .ok .nx [none, some (s), some (.int m), some (t3), some (t4), some (.lst true zs), some (.non), none, none, none, none, none, none, none, none, none] := by
  have e : eltK (rowsD true true (r :: rs)) (.int 0) = some (0, rowD true r) := by simp [eltK, ixN]
  refine ⟨.lst true (r.map D.str ++ [.str (PySem.Str.ofString "more")]) :: rs.map (rowD true), by simp; omega, ?_⟩
  have ea : appE 5 0 (pure (.str (PySem.Str.ofString "more"))) [none, some (s), some (.int m), some (t3), some (t4), some (rowsD true true (r :: rs)), some (.non), none, none, none, none, none, none, none, none, none] = .ok .non [none, some (s), some (.int m), some (t3), some (t4), some (.lst true (.lst true (r.map D.str ++ [.str (PySem.Str.ofString "more")]) :: rs.map (rowD true))), some (.non), none, none, none, none, none, none, none, none, none] := by
    unfold appE
    rw [bind_app, peek_def]
    simp only [List.getElem?_cons_zero, List.getElem?_cons_succ, bnd_ok, e]
    rw [bind_app, setv_app, bnd_ok, bind_app, pure_app, bnd_ok, if_pos (by rw [List.length_map, sizeL]; omega), bind_app, setv_app, bnd_ok]
    rfl
  rw [dropM_app, ea]
  rfl
theorem step8 {s t3 t4 : D} {m : Int} {zs : List D} (h : zs.length ≤ 100) :
    dropM (appM 5 (lstM (pure []))) [none, some (s), some (.int m), some (t3), some (t4), some (.lst true zs), some (.non), none, none, none, none, none, none, none, none, none] = .ok .nx [none, some (s), some (.int m), some (t3), some (t4), some (.lst true (zs ++ [.lst true []])), some (.non), none, none, none, none, none, none, none, none, none] := by
  have h' : zs.length < 16777216 := by omega
  simp [sizeL, h']
theorem step9 {s t3 t4 t5 : D} {m : Int} (hs : IsS s) (m1 : 1 ≤ m) (m2 : m ≤ 60) : ∃ (at' : Int) (s2 : D), IsS s2 ∧ 0 ≤ at' ∧ at' < m ∧
    asgM (ifV (asB (ev2 (.tmp (callM m__law_pick [.slot 1, .tmp (pure (.int 3))])) (.tmp (pure (.int 0))) oEq)) (ev2 (.slot 2) (.tmp (pure (.int 1))) oSub) (callM m__law_pick [.slot 1, .tmp (rdv 2)])) (stv 7) [none, some (s), some (.int m), some (t3), some (t4), some (t5), some (.non), none, none, none, none, none, none, none, none, none] = .ok .nx [none, some (s2), some (.int m), some (t3), some (t4), some (t5), some (.non), some (.int at'), none, none, none, none, none, none, none, none] := by
  obtain ⟨r1, s1, hs1, a1, b1, e1⟩ := pick_ok hs (many := 3) (by omega) (by omega)
  have x1 := isS_isx hs1
  by_cases h : r1 = 0
  · subst h
    exact ⟨m - 1, s1, hs1, by omega, by omega, by simp [e1, x1]⟩
  · obtain ⟨r2, s2, hs2, a2, b2, e2⟩ := pick_ok hs1 (many := m) (by omega) (by omega)
    have x2 := isS_isx hs2
    exact ⟨r2, s2, hs2, by omega, by omega, by simp [e1, x1, h, e2, x2]⟩
theorem step10 {s t3 t4 t5 : D} {m at' : Int} (hs : IsS s) : ∃ (kd : Int) (s2 : D), IsS s2 ∧ 0 ≤ kd ∧ kd < 6 ∧
    asgM (callM m__law_pick [.slot 1, .tmp (pure (.int 6))]) (stv 8) [none, some (s), some (.int m), some (t3), some (t4), some (t5), some (.non), some (.int at'), none, none, none, none, none, none, none, none] = .ok .nx [none, some (s2), some (.int m), some (t3), some (t4), some (t5), some (.non), some (.int at'), some (.int kd), none, none, none, none, none, none, none] := by
  obtain ⟨r1, s1, hs1, a1, b1, e1⟩ := pick_ok hs (many := 6) (by omega) (by omega)
  have x1 := isS_isx hs1
  exact ⟨r1, s1, hs1, a1, b1, by simp [e1, x1]⟩
theorem step11 {s t3 t5 : D} {m at' kd : Int} {ls : List Str} :
    asgM (ev1 (.slot 4) oList) (stv 9) [none, some (s), some (.int m), some (t3), some (rowD true ls), some (t5), some (.non), some (.int at'), some (.int kd), none, none, none, none, none, none, none] = .ok .nx [none, some (s), some (.int m), some (t3), some (rowD true ls), some (t5), some (.non), some (.int at'), some (.int kd), some (rowD true ls), none, none, none, none, none, none] := by
  have e : oList (rowD true ls) = some (rowD true ls, rowD true ls) := by
    show some (D.lst true (fzL (ls.map D.str)), D.lst true (fzL (ls.map D.str))) = _
    rw [fzL_strs]
  simp [e]
theorem row_at {rows : List (List Str)} {n : Nat} (h : n < rows.length) : oIx (rowsD false false rows) (.int (n : Int)) = some (rowD false rows[n], rowsD false false rows, .int (n : Int)) := by
  have hg : (rows.map (rowD false))[n]? = some (rowD false rows[n]) := by rw [List.getElem?_map, List.getElem?_eq_getElem h]; rfl
  have := oIx_l (o := false) (xs := rows.map (rowD false)) (i := (n : Int)) (k := n) (d := rowD false rows[n]) (by rw [List.length_map]; unfold ixN; simp; exact h) hg
  rw [this, fz_row, set_same hg]
theorem spoil {s t5 : D} {m kd : Int} {n : Nat} {rows : List (List Str)} {ls L : List Str} (hs : IsS s) (hr : ∀ r ∈ rows, RowOk r) (hn : n < rows.length) (hL : L.length = rows.length) (k0 : 0 ≤ kd) (k1 : kd ≤ 4) : ∃ (x : Str) (s2 : D), IsS s2 ∧ Bad x ∧
    setIx 9 (callM m__law_a_wrong [.slot 1, .tmp (ev2 (.slot 3) (.slot 7) oIx), .tmp (rdv 8)]) (rdv 7) [none, some (s), some (.int m), some (rowsD false false rows), some (rowD true ls), some (t5), some (.non), some (.int (n : Nat)), some (.int kd), some (rowD true L), none, none, none, none, none, none] = .ok .nx [none, some (s2), some (.int m), some (rowsD false false rows), some (rowD true ls), some (t5), some (.non), some (.int (n : Nat)), some (.int kd), some (rowD true (L.set n x)), none, none, none, none, none, none] := by
  obtain ⟨x, s2, hs2, hb, e⟩ := wrong_ok hs (hr rows[n] (List.getElem_mem hn)) k0 k1
  have hx := isS_isx hs2
  have hx0 := isS_isx hs
  have er := row_at hn
  have ei : ixN (L.map D.str).length (n : Int) = some n := by rw [List.length_map, hL]; unfold ixN; simp; exact hn
  refine ⟨x, s2, hs2, hb, ?_⟩
  have ec : callM m__law_a_wrong [.slot 1, .tmp (ev2 (.slot 3) (.slot 7) oIx), .tmp (rdv 8)] [none, some (s), some (.int m), some (rowsD false false rows), some (rowD true ls), some (t5), some (.non), some (.int (n : Nat)), some (.int kd), some (rowD true L), none, none, none, none, none, none] = .ok (.str x) [none, some (s2), some (.int m), some (rowsD false false rows), some (rowD true ls), some (t5), some (.non), some (.int (n : Nat)), some (.int kd), some (rowD true L), none, none, none, none, none, none] := by
    simp [er, e, hx, hx0]
  rw [setIx_app, ec]
  simp only [bnd_ok, peek_def, List.getElem?_cons_zero, List.getElem?_cons_succ, rdv_def, fz_int, List.set_cons_succ, List.set_cons_zero, ei]
  rw [← List.map_set]
theorem text10 {s t5 : D} {m kd : Int} {n : Nat} {rows : List (List Str)} {ls L : List Str} {a10 : Option D} (h : ∀ l ∈ L, Fine l) (hl : L.length ≤ 60) :
    asgM (callM m__law_a_lines [.slot 9]) (stv 10) [none, some (s), some (.int m), some (rowsD false false rows), some (rowD true ls), some (t5), some (.non), some (.int (n : Nat)), some (.int kd), some (rowD true L), a10, none, none, none, none, none] = .ok .nx [none, some (s), some (.int m), some (rowsD false false rows), some (rowD true ls), some (t5), some (.non), some (.int (n : Nat)), some (.int kd), some (rowD true L), some (.str (textOf L)), none, none, none, none, none] := by
  have e := lines_is (o := true) (fun l hl => (h l hl).1) hl
  simp [e]
theorem cut10 {s t5 : D} {m kd : Int} {n : Nat} {rows : List (List Str)} {ls L : List Str} {x : Str} (hx : x.length ≤ 130000) :
    asgM (evS (.slot 10) none (some (ev1 (.tmp (pure (.int 1))) oNeg)) oSl) (stv 10) [none, some (s), some (.int m), some (rowsD false false rows), some (rowD true ls), some (t5), some (.non), some (.int (n : Nat)), some (.int kd), some (rowD true L), some (.str x), none, none, none, none, none] = .ok .nx [none, some (s), some (.int m), some (rowsD false false rows), some (rowD true ls), some (t5), some (.non), some (.int (n : Nat)), some (.int kd), some (rowD true L), some (.str (cutS x none (some (-1)))), none, none, none, none, none] := by
  have e : oSl (.str x) none (some (-1)) = some (.str (cutS x none (some (-1))), .str x) := by
    unfold oSl
    simp only []
    rw [if_pos (by rw [sizeL]; omega)]
  simp [e]
theorem spoil2 {s t5 : D} {m kd : Int} {n : Nat} {rows : List (List Str)} {ls L : List Str} {x : Str} (hs : IsS s) (hr : ∀ r ∈ rows, RowOk r) (hm : (rows.length : Int) = m) (h1 : 1 ≤ m) (hL : L.length = rows.length) : ∃ (y : Str) (s2 : D), IsS s2 ∧ Bad y ∧
    setIx 9 (callM m__law_a_wrong [.slot 1, .tmp (ev2 (.slot 3) (.tmp (ev2 (.slot 2) (.tmp (pure (.int 1))) oSub)) oIx), .tmp (callM m__law_pick [.slot 1, .tmp (pure (.int 5))])]) (ev2 (.slot 2) (.tmp (pure (.int 1))) oSub) [none, some (s), some (.int m), some (rowsD false false rows), some (rowD true ls), some (t5), some (.non), some (.int (n : Nat)), some (.int kd), some (rowD true L), some (.str x), none, none, none, none, none] = .ok .nx [none, some (s2), some (.int m), some (rowsD false false rows), some (rowD true ls), some (t5), some (.non), some (.int (n : Nat)), some (.int kd), some (rowD true (L.set (rows.length - 1) y)), some (.str x), none, none, none, none, none] := by
  obtain ⟨r1, s1, hs1, a1, b1, e1⟩ := pick_ok hs (many := 5) (by omega) (by omega)
  have x1 := isS_isx hs1
  have hn : rows.length - 1 < rows.length := by omega
  obtain ⟨y, s2, hs2, hb, e⟩ := wrong_ok hs1 (hr rows[rows.length - 1] (List.getElem_mem hn)) a1 (by omega)
  have hx := isS_isx hs2
  have er := row_at hn
  have em : m - 1 = ((rows.length - 1 : Nat) : Int) := by omega
  rw [← em] at er
  have ei : ixN (L.map D.str).length (m - 1) = some (rows.length - 1) := by rw [List.length_map, hL, em]; unfold ixN; simp; omega
  refine ⟨y, s2, hs2, hb, ?_⟩
  have ec : callM m__law_a_wrong [.slot 1, .tmp (ev2 (.slot 3) (.tmp (ev2 (.slot 2) (.tmp (pure (.int 1))) oSub)) oIx), .tmp (callM m__law_pick [.slot 1, .tmp (pure (.int 5))])] [none, some (s), some (.int m), some (rowsD false false rows), some (rowD true ls), some (t5), some (.non), some (.int (n : Nat)), some (.int kd), some (rowD true L), some (.str x), none, none, none, none, none] = .ok (.str y) [none, some (s2), some (.int m), some (rowsD false false rows), some (rowD true ls), some (t5), some (.non), some (.int (n : Nat)), some (.int kd), some (rowD true L), some (.str x), none, none, none, none, none] := by
    simp [er, e, hx, e1, x1]
  rw [setIx_app, ec]
  have ed : ev2 (.slot 2) (.tmp (pure (.int 1))) oSub [none, some (s2), some (.int m), some (rowsD false false rows), some (rowD true ls), some (t5), some (.non), some (.int (n : Nat)), some (.int kd), some (rowD true L), some (.str x), none, none, none, none, none] = .ok (.int (m - 1)) [none, some (s2), some (.int m), some (rowsD false false rows), some (rowD true ls), some (t5), some (.non), some (.int (n : Nat)), some (.int kd), some (rowD true L), some (.str x), none, none, none, none, none] := by simp
  simp only [bnd_ok, peek_def, List.getElem?_cons_zero, List.getElem?_cons_succ, List.set_cons_succ, List.set_cons_zero]
  rw [ed]
  simp only [bnd_ok, peek_def, List.getElem?_cons_zero, List.getElem?_cons_succ, List.set_cons_succ, List.set_cons_zero, ei]
  rw [← List.map_set]
theorem loop_end {s t5 : D} {m kd : Int} {n : Nat} {rows : List (List Str)} {ls L : List Str} {x : Str} (e : m__law_a_scan [.str x] = .ok (.tup [.non, faultD ((n : Int) + 1)]) [.non]) : 
    forL (lstM (consM (tupM (consM (mvv 10) (consM (ev2 (.slot 7) (.tmp (pure (.int 1))) oPlus) (pure [])))) (consM (tupM (consM (pure (.str (PySem.Str.ofString ""))) (consM (pure (.int 1)) (pure [])))) (pure [])))) (fun d => match d with | .tup ds => (if ds.length = 2 then (fun ds => match ds with | d :: r => (do (stv 11) d; (fun ds => match ds with | d :: r => (do (stv 12) d; (fun ds => match ds with | [] => pure () | _ => badM) r) | [] => badM) r) | [] => badM) ds else badM) | _ => badM)
    (seqM (asgM (callM m__law_a_scan [.tmp (mvv 11)]) (fun d => match d with | .tup ds => (if ds.length = 2 then (fun ds => match ds with | d :: r => (do (stv 5) d; (fun ds => match ds with | d :: r => (do (stv 6) d; (fun ds => match ds with | [] => pure () | _ => badM) r) | [] => badM) r) | [] => badM) ds else badM) | _ => badM))
    (ifM (orT (asB (ev2 (.slot 5) (.tmp (pure .non)) oIsNot)) (notT (evT (.tmp (callM (m__law_same 4) [.slot 6, .tmp (tupM (consM (pure (.str (PySem.Str.ofString "BadText"))) (consM (rdv 12) (pure []))))])))))
    (retM (pure (.bl false)))
    (pure .nx))) [none, some (s), some (.int m), some (rowsD false false rows), some (rowD true ls), some (t5), some (.non), some (.int (n : Nat)), some (.int kd), some (rowD true L), some (.str x), none, none, none, none, none] = .ok .nx [none, some (s), some (.int m), some (rowsD false false rows), some (rowD true ls), some (.non), some (faultD 1), some (.int (n : Nat)), some (.int kd), some (rowD true L), none, none, some (.int 1), none, none, none] := by
  have e1 := same_fault (k := (n : Int) + 1)
  have e2 := same_fault (k := 1)
  have e3 := scan_em
  simp [e, e1, e2, e3, noX_app, sizeL]
end K00
end
section
set_option Elab.async false
set_option linter.all false
set_option maxRecDepth 100000
set_option maxHeartbeats 4000000
namespace K00
open PySem PySem.Spec PyProof.Rows L2 Mir
theorem step12 {s t5 : D} {m at' kd : Int} {rows : List (List Str)} {ls : List Str} (hls : ls = rows.map lineOf) (hs : IsS s) (hr : ∀ r ∈ rows, RowOk r) (hm : (rows.length : Int) = m) (m1 : 1 ≤ m) (a0 : 0 ≤ at') (a1 : at' < m) (k0 : 0 ≤ kd) (k1 : kd < 6) :
    ∃ (n : Nat) (L : List Str) (s2 : D), IsS s2 ∧ n < rows.length ∧ L.length = rows.length ∧ ((kd = 5 ∧ n = rows.length - 1 ∧ L = rows.map lineOf) ∨ (kd ≠ 5 ∧ ∃ x, Bad x ∧ L = (rows.map lineOf).set n x)) ∧
    ifM (asB (ev2 (.slot 8) (.tmp (pure (.int 5))) oEq)) (asgM (ev2 (.slot 2) (.tmp (pure (.int 1))) oSub) (stv 7)) (setIx 9 (callM m__law_a_wrong [.slot 1, .tmp (ev2 (.slot 3) (.slot 7) oIx), .tmp (rdv 8)]) (rdv 7)) [none, some (s), some (.int m), some (rowsD false false rows), some (rowD true ls), some (t5), some (.non), some (.int at'), some (.int kd), some (rowD true ls), none, none, none, none, none, none] = .ok .nx [none, some (s2), some (.int m), some (rowsD false false rows), some (rowD true ls), some (t5), some (.non), some (.int (n : Nat)), some (.int kd), some (rowD true L), none, none, none, none, none, none] := by
  by_cases h : kd = 5
  · subst h
    refine ⟨rows.length - 1, ls, s, hs, by omega, by rw [hls, List.length_map], .inl ⟨rfl, rfl, hls⟩, ?_⟩
    have e : m - 1 = ((rows.length - 1 : Nat) : Int) := by omega
    simp [e]
  · obtain ⟨n, rfl⟩ : ∃ n : Nat, at' = n := ⟨at'.toNat, by omega⟩
    obtain ⟨x, s2, hs2, hb, e⟩ := spoil (t5 := t5) (m := m) (ls := ls) (L := ls) hs hr (n := n) (by omega) (by rw [hls, List.length_map]) k0 (by omega)
    refine ⟨n, ls.set n x, s2, hs2, by omega, by rw [List.length_set, hls, List.length_map], .inr ⟨h, x, hb, by rw [hls]⟩, ?_⟩
    rw [ifM_app]
    have et : asB (ev2 (.slot 8) (.tmp (pure (.int 5))) oEq) [none, some (s), some (.int m), some (rowsD false false rows), some (rowD true ls), some (t5), some (.non), some (.int (n : Nat)), some (.int kd), some (rowD true ls), none, none, none, none, none, none] = .ok false [none, some (s), some (.int m), some (rowsD false false rows), some (rowD true ls), some (t5), some (.non), some (.int (n : Nat)), some (.int kd), some (rowD true ls), none, none, none, none, none, none] := by simp [h]
    rw [et, bnd_ok, if_neg (by decide)]
    exact e
theorem test1 {s t5 : D} {m kd : Int} {n : Nat} {rows : List (List Str)} {ls L : List Str} {x z : Str} (hs : IsS s) (hm : (rows.length : Int) = m) (m1 : 1 ≤ m) (hL : L.length = rows.length) (hz : L[rows.length - 1]? = some z) (hc : cpOk z = true) :
    ∃ (b : Bool) (s2 : D), IsS s2 ∧ (kd = 5 → b = true) ∧ (kd ≠ 5 → b = true → z ≠ em) ∧ orT (asB (ev2 (.slot 8) (.tmp (pure (.int 5))) oEq)) (andT (asB (ev2 (.tmp (ev2 (.slot 9) (.tmp (ev2 (.slot 2) (.tmp (pure (.int 1))) oSub)) oIx)) (.tmp (pure (.str (PySem.Str.ofString "")))) oNe)) (asB (ev2 (.tmp (callM m__law_pick [.slot 1, .tmp (pure (.int 4))])) (.tmp (pure (.int 0))) oEq))) [none, some (s), some (.int m), some (rowsD false false rows), some (rowD true ls), some (t5), some (.non), some (.int (n : Nat)), some (.int kd), some (rowD true L), some (.str x), none, none, none, none, none] = .ok b [none, some (s2), some (.int m), some (rowsD false false rows), some (rowD true ls), some (t5), some (.non), some (.int (n : Nat)), some (.int kd), some (rowD true L), some (.str x), none, none, none, none, none] := by
  by_cases h : kd = 5
  · exact ⟨true, s, hs, fun _ => rfl, fun q => absurd h q, by simp [h]⟩
  · have e : m - 1 = ((rows.length - 1 : Nat) : Int) := by omega
    have hg : (L.map D.str)[rows.length - 1]? = some (.str z) := by rw [List.getElem?_map, hz]; rfl
    have ei : oIx (rowD true L) (.int (m - 1)) = some (.str z, rowD true L, .int (m - 1)) := by
      have := oIx_l (o := true) (xs := L.map D.str) (i := m - 1) (k := rows.length - 1) (d := .str z) (by rw [List.length_map, hL, e]; unfold ixN; simp; omega) hg
      rw [this, fz_str, set_same hg]
    have en := oNe_ss (x := z) (y := PySem.Str.ofString "") hc (by decide +kernel)
    by_cases q : z = em
    · exact ⟨false, s, hs, fun z => absurd z h, (fun _ z => by cases z), by rw [q] at ei en; simp [h, ei, en]⟩
    · obtain ⟨r1, s1, hs1, a1, b1, e1⟩ := pick_ok hs (many := 4) (by omega) (by omega)
      have x1 := isS_isx hs1
      by_cases hz0 : r1 = 0
      · exact ⟨true, s1, hs1, fun _ => rfl, fun _ _ => q, by simp [h, ei, en, q, e1, x1, hz0]⟩
      · exact ⟨false, s1, hs1, fun z => absurd z h, (fun _ z => by cases z), by simp [h, ei, en, q, e1, x1, hz0]⟩
theorem test2 {s t5 : D} {m kd : Int} {n : Nat} {rows : List (List Str)} {ls L : List Str} {x : Str} (hs : IsS s) :
    ∃ (b : Bool) (s2 : D), IsS s2 ∧ (b = true → (n : Int) + 1 < m) ∧ andT (asB (ev2 (.tmp (ev2 (.slot 7) (.tmp (pure (.int 1))) oPlus)) (.slot 2) oLt)) (evT (.tmp (callM m__law_pick [.slot 1, .tmp (pure (.int 2))]))) [none, some (s), some (.int m), some (rowsD false false rows), some (rowD true ls), some (t5), some (.non), some (.int (n : Nat)), some (.int kd), some (rowD true L), some (.str x), none, none, none, none, none] = .ok b [none, some (s2), some (.int m), some (rowsD false false rows), some (rowD true ls), some (t5), some (.non), some (.int (n : Nat)), some (.int kd), some (rowD true L), some (.str x), none, none, none, none, none] := by
  by_cases h : (n : Int) + 1 < m
  · obtain ⟨r1, s1, hs1, a1, b1, e1⟩ := pick_ok hs (many := 2) (by omega) (by omega)
    have x1 := isS_isx hs1
    exact ⟨r1 != 0, s1, hs1, fun _ => h, by simp [h, e1, x1]⟩
  · exact ⟨false, s, hs, (fun z => by cases z), by simp [h]⟩
theorem fine_lines {rows : List (List Str)} (hr : ∀ r ∈ rows, RowOk r) : ∀ l ∈ rows.map lineOf, Fine l := fun l hl => by
  obtain ⟨r, h, rfl⟩ := List.mem_map.mp hl
  exact line_fine (hr r h)
theorem fine_set {L : List Str} {n : Nat} {x : Str} (h : ∀ l ∈ L, Fine l) (hx : Fine x) : ∀ l ∈ L.set n x, Fine l := fun l hl => by
  rcases List.mem_or_eq_of_mem_set hl with q | q
  · exact h l q
  · rw [q]; exact hx
theorem fine_cp {x : Str} (h : Fine x) : cpOk x = true := cpOk_of h.2.2
theorem step14 {s t5 : D} {m kd : Int} {n : Nat} {rows : List (List Str)} {ls L : List Str} (hs : IsS s) (hr : ∀ r ∈ rows, RowOk r) (hm : (rows.length : Int) = m) (m1 : 1 ≤ m) (m2 : m ≤ 60) (hn : n < rows.length) (hL : L.length = rows.length)
    (hk : (kd = 5 ∧ n = rows.length - 1 ∧ L = rows.map lineOf) ∨ (kd ≠ 5 ∧ ∃ x, Bad x ∧ L = (rows.map lineOf).set n x)) :
    ∃ (L' : List Str) (x : Str) (s2 : D), IsS s2 ∧ m__law_a_scan [.str x] = .ok (.tup [.non, faultD ((n : Int) + 1)]) [.non] ∧
    ifM (orT (asB (ev2 (.slot 8) (.tmp (pure (.int 5))) oEq)) (andT (asB (ev2 (.tmp (ev2 (.slot 9) (.tmp (ev2 (.slot 2) (.tmp (pure (.int 1))) oSub)) oIx)) (.tmp (pure (.str (PySem.Str.ofString "")))) oNe)) (asB (ev2 (.tmp (callM m__law_pick [.slot 1, .tmp (pure (.int 4))])) (.tmp (pure (.int 0))) oEq)))) (asgM (evS (.slot 10) none (some (ev1 (.tmp (pure (.int 1))) oNeg)) oSl) (stv 10))
    (ifM (andT (asB (ev2 (.tmp (ev2 (.slot 7) (.tmp (pure (.int 1))) oPlus)) (.slot 2) oLt)) (evT (.tmp (callM m__law_pick [.slot 1, .tmp (pure (.int 2))]))))
    (seqM (setIx 9 (callM m__law_a_wrong [.slot 1, .tmp (ev2 (.slot 3) (.tmp (ev2 (.slot 2) (.tmp (pure (.int 1))) oSub)) oIx), .tmp (callM m__law_pick [.slot 1, .tmp (pure (.int 5))])]) (ev2 (.slot 2) (.tmp (pure (.int 1))) oSub))
    (asgM (callM m__law_a_lines [.slot 9]) (stv 10)))
    (pure .nx)) [none, some (s), some (.int m), some (rowsD false false rows), some (rowD true ls), some (t5), some (.non), some (.int (n : Nat)), some (.int kd), some (rowD true L), some (.str (textOf L)), none, none, none, none, none] = .ok .nx [none, some (s2), some (.int m), some (rowsD false false rows), some (rowD true ls), some (t5), some (.non), some (.int (n : Nat)), some (.int kd), some (rowD true L'), some (.str x), none, none, none, none, none] := by
  have hfine : ∀ l ∈ L, Fine l := by
    rcases hk with ⟨_, _, e⟩ | ⟨_, x, hb, e⟩
    · rw [e]; exact fine_lines hr
    · rw [e]; exact fine_set (fine_lines hr) hb.2
  have hn60 : L.length ≤ 60 := by omega
  have htl := (fine_text hfine hn60).2
  have hlast : rows.length - 1 < L.length := by omega
  obtain ⟨b, s1, hs1, hb5, hbn, e1⟩ := test1 (t5 := t5) (kd := kd) (n := n) (ls := ls) (x := textOf L) hs hm m1 hL (List.getElem?_eq_getElem hlast) (fine_cp (hfine _ (List.getElem_mem hlast)))
  cases b with
  | true =>
    refine ⟨L, cutS (textOf L) none (some (-1)), s1, hs1, ?_, ?_⟩
    · rcases hk with ⟨hk5, hnn, e⟩ | ⟨hk5, x, hb, e⟩
      · have hne : rows ≠ [] := by intro z; rw [z] at hn; cases hn
        have eL : L = (rows.take (rows.length - 1)).map lineOf ++ [lineOf (rows.getLast hne)] := by rw [e]; exact last_split hne
        have := cutA eL (take_ok hr _) (line_ne (hr _ (List.getLast_mem hne))) hfine hn60
        rw [List.length_take, Nat.min_eq_left (by omega), ← hnn] at this
        exact this
      · have eL : L = (rows.take n).map lineOf ++ x :: (rows.drop (n + 1)).map lineOf := by rw [e]; exact set_split hn
        have hlt : (rows.take n).length = n := by rw [List.length_take]; omega
        by_cases hd : rows.drop (n + 1) = []
        · have hz := hbn hk5 rfl
          have hnl : n = rows.length - 1 := by
            have : (rows.drop (n + 1)).length = 0 := by rw [hd]; rfl
            rw [List.length_drop] at this
            omega
          have hx : L[rows.length - 1] = x := by
            have : L[rows.length - 1]? = some x := by
              rw [e, ← hnl, List.getElem?_set_self (by rw [List.length_map]; exact hn)]
            rw [List.getElem?_eq_getElem hlast] at this
            exact Option.some.inj this
          rw [hx] at hz
          rw [hd] at eL
          have := cutA eL (take_ok hr _) hz hfine hn60
          rw [hlt] at this
          exact this
        · have eL2 : L = (rows.take n).map lineOf ++ x :: (((rows.drop (n + 1)).dropLast).map lineOf ++ [lineOf ((rows.drop (n + 1)).getLast hd)]) := by
            rw [← List.map_singleton (f := lineOf), ← List.map_append, List.dropLast_concat_getLast]
            exact eL
          have := cutB eL2 (take_ok hr _) hb.1 hfine hn60
          rw [hlt] at this
          exact this
    · rw [ifM_app, e1, bnd_ok, if_pos rfl]
      exact cut10 htl
  | false =>
    rcases hk with ⟨hk5, _, _⟩ | ⟨hk5, x, hb, e⟩
    · cases hb5 hk5
    · have eL : L = (rows.take n).map lineOf ++ x :: (rows.drop (n + 1)).map lineOf := by rw [e]; exact set_split hn
      have hlt : (rows.take n).length = n := by rw [List.length_take]; omega
      obtain ⟨b2, s3, hs3, hb2, e2⟩ := test2 (t5 := t5) (m := m) (kd := kd) (n := n) (rows := rows) (ls := ls) (L := L) (x := textOf L) hs1
      cases b2 with
      | true =>
        have hlt2 := hb2 rfl
        obtain ⟨y, s4, hs4, hby, e3⟩ := spoil2 (t5 := t5) (kd := kd) (n := n) (ls := ls) (L := L) (x := textOf L) hs3 hr hm m1 hL
        have hf2 := fine_set (n := rows.length - 1) hfine hby.2
        have h60 : (L.set (rows.length - 1) y).length ≤ 60 := by rw [List.length_set]; exact hn60
        refine ⟨L.set (rows.length - 1) y, textOf (L.set (rows.length - 1) y), s4, hs4, ?_, ?_⟩
        · have eL2 : L.set (rows.length - 1) y = (rows.take n).map lineOf ++ x :: (((rows.drop (n + 1)).map lineOf).set (rows.length - 1 - n - 1) y) := by
            rw [eL, List.set_append_right _ _ (by rw [List.length_map, hlt]; omega), List.length_map, hlt]
            congr 1
            have : rows.length - 1 - n = (rows.length - 1 - n - 1) + 1 := by omega
            rw [this, List.set_cons_succ]
            rfl
          have := full_scan eL2 (take_ok hr _) hb.1 hf2 h60
          rw [hlt] at this
          exact this
        · rw [ifM_app, e1, bnd_ok, if_neg (by decide), ifM_app, e2, bnd_ok, if_pos rfl]
          exact seq_step e3 (text10 hf2 h60)
      | false =>
        refine ⟨L, textOf L, s3, hs3, ?_, ?_⟩
        · have := full_scan eL (take_ok hr _) hb.1 hfine hn60
          rw [hlt] at this
          exact this
        · rw [ifM_app, e1, bnd_ok, if_neg (by decide), ifM_app, e2, bnd_ok, if_neg (by decide)]
          rfl
theorem law_true (ns : List Int) (h : ns.length ≤ 63) : ∃ outs, m_law [.seq (ns.map V.int)] = .ok (.bl true) outs := by
  obtain ⟨s0, hs0, e0⟩ := source_ok ns
  obtain ⟨m, s1, hs1, m1, m2, e1⟩ := many_made hs0
  obtain ⟨rows, s2, hm, hr, hs2, e2⟩ := rows_made hs1 m1 m2
  have hn60 : rows.length ≤ 60 := by omega
  have hne : rows ≠ [] := by intro z; rw [z] at hm; simp at hm; omega
  have e3 := lines_made (s := s2) (m := m) hr hn60
  obtain ⟨x, eL, eS⟩ := scan_rows hr hne hn60 (o := true)
  have es := same_rows (o := true) (o' := true) (p := false) (p' := false) hr hn60
  obtain ⟨r0, rs, hcons⟩ : ∃ r0 rs, rows = r0 :: rs := by
    cases rows with
    | nil => exact absurd rfl hne
    | cons r rs => exact ⟨r, rs, rfl⟩
  have h7 : ∃ zs : List D, zs.length ≤ 100 ∧ dropM (appE 5 0 (pure (.str (PySem.Str.ofString "more")))) [none, some (s2), some (.int m), some (rowsD false false rows), some (rowD true (rows.map lineOf)), some (rowsD true true rows), some (.non), none, none, none, none, none, none, none, none, none] = .ok .nx [none, some (s2), some (.int m), some (rowsD false false rows), some (rowD true (rows.map lineOf)), some (.lst true zs), some (.non), none, none, none, none, none, none, none, none, none] := by
    rw [hcons]
    exact step7 ((hr r0 (by rw [hcons]; exact List.mem_cons_self)).2.1) (by rw [hcons] at hn60; simp at hn60; omega)
  obtain ⟨zs, hz, e7⟩ := h7
  obtain ⟨at', s3, hs3, a0, a1, e9⟩ := step9 (t3 := rowsD false false rows) (t4 := rowD true (rows.map lineOf)) (t5 := .lst true (zs ++ [.lst true []])) hs2 m1 m2
  obtain ⟨kd, s4, hs4, k0, k1, e10⟩ := step10 (t3 := rowsD false false rows) (t4 := rowD true (rows.map lineOf)) (t5 := .lst true (zs ++ [.lst true []])) (m := m) (at' := at') hs3
  obtain ⟨n, L, s5, hs5, hn, hL, hk, e12⟩ := step12 (t5 := .lst true (zs ++ [.lst true []])) (kd := kd) (ls := rows.map lineOf) rfl hs4 hr hm m1 a0 a1 k0 k1
  have hfine : ∀ l ∈ L, Fine l := by
    rcases hk with ⟨_, _, e⟩ | ⟨_, x, hb, e⟩
    · rw [e]; exact fine_lines hr
    · rw [e]; exact fine_set (fine_lines hr) hb.2
  obtain ⟨L', y, s6, hs6, ey, e14⟩ := step14 (t5 := .lst true (zs ++ [.lst true []])) (kd := kd) (ls := rows.map lineOf) hs5 hr hm m1 m2 hn hL hk
  refine ⟨[.non], def_rt (ρ' := [none, some (s6), some (.int m), some (rowsD false false rows), some (rowD true (rows.map lineOf)), some (rowsD true true rows), some (.non), some (.int (n : Nat)), some (.int kd), some (rowD true L'), none, none, some (.int 1), none, none, none]) ?_ (by simp [outsOf]) rfl (by simp)⟩
  unfold g_law
  refine seq_step (ρ1 := [none, some (s0), none, none, none, none, none, none, none, none, none, none, none, none, none, none]) (by simp [Mir.envOf, e0, isS_isx hs0]) ?_
  refine seq_step e1 ?_
  refine seq_step e2 ?_
  refine seq_step e3 ?_
  refine seq_step (step5 rfl rfl eL eS) ?_
  refine seq_step (step6 rfl rfl es) ?_
  refine seq_step e7 ?_
  refine seq_step (step8 hz) ?_
  refine seq_step e9 ?_
  refine seq_step e10 ?_
  refine seq_step step11 ?_
  refine seq_step e12 ?_
  refine seq_step (text10 hfine (by omega)) ?_
  refine seq_step e14 ?_
  refine seq_step (loop_end ey) ?_
  refine seq_step (step5 rfl rfl eL eS) ?_
  refine ret_and (ρ1 := [none, some (s6), some (.int m), some (rowsD false false rows), some (rowD true (rows.map lineOf)), some (rowsD true true rows), some (.non), some (.int (n : Nat)), some (.int kd), some (rowD true L'), none, none, some (.int 1), none, none, none]) (by simp) ?_
  simp [es]
end K00
end
section
set_option Elab.async false
set_option linter.all false
set_option maxRecDepth 100000
set_option maxHeartbeats 0
open PySem PySem.W PySem.Calls PyProof.Rows
theorem PySem.Challenge.cw_fourbells_k00_scanned_lines_holds : PySem.Challenge.rw_fourbells_k00_scanned_lines.Holds := by
  w_on; o_law
  refine HandSHeadRun.head_any (r := OpenLaw.row PySem.Challenge.rw_fourbells_k00_scanned_lines) (q := view (OpenLaw.row PySem.Challenge.rw_fourbells_k00_scanned_lines).prog [31]) (H := K00.hk) (ob := K00.ob) (M := 6000) (loose := K00.looseA) (d := HandSHeadRun.topDef (OpenLaw.row PySem.Challenge.rw_fourbells_k00_scanned_lines).prog 31) (kwd := []) K00.ob_eq
    (by kernel_rfl) (fun s => by kernel_rfl) K00.run (by kernel_rfl) (by kernel_rfl) (by kernel_rfl) (by rfl) (by first | assumption | decide +kernel) (by decide +kernel) ⟨rfl, rfl, rfl, rfl, rfl, by decide +kernel⟩ ?hw ?hc
  case hw => w_witness2
  case hc =>
    refine L2.walk_ofE (l := PySem.Challenge.rw_fourbells_k00_scanned_lines) (n := 63) (k := 6) (x := "script") (CX := Mir.CXW PySem.Challenge.pw_fourbells_k00_scanned_lines) rfl (by decide) (by kernel_rfl) ⟨rfl, by decide, by decide⟩ ?F (fun H s e s' => Mir.cxw_no H s e s')
    intro w mg fa h Y G hmg0
    obtain ⟨K, KX, c⟩ := Y
    have hmg : mg ("law" : PySem.Str) = some (.ref fa) := by
      have e : (HandSHeadRun.topDef (OpenLaw.row PySem.Challenge.rw_fourbells_k00_scanned_lines).prog 31).name = ("law" : PySem.Str) := by kernel_rfl
      rw [← e]
      exact hmg0
    have T := K00.txt_of KX G c
    exact Mir.law_end (P := PySem.Challenge.pw_fourbells_k00_scanned_lines) KX hmg rfl rfl T.l_law (fun _ _ _ _ _ _ us hl => match us, hl with | [_], _ => rfl) (fun base => K00.ok_law (base := base) (P := PySem.Challenge.pw_fourbells_k00_scanned_lines) (w := w) T) fun ns hl => K00.law_true ns hl
end
