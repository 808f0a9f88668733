import PyProof.Rows.All
import Wide.All
import OpenK.AllK
import Wide.FinOn
import HandS.ForMost
import HandS.ForExc
import HandS.Wide
import HandS.IsInst
import HandS.CallSlots
import HandS.Comp
import HandS.ExcCtx
import HandS.HotCalls
import HandS.Walk
import KE.KExcSuper
import HandS.ExcInit
import HandS.ExcIs
import HandS.ExcField
import HandS.HeadHook4
import HandS.SortInts
import HandS.Head0
import HandS.Head1
import HandS.Head2
import HandS.HeadEnd
import HandS.HeadHook1
import HandS.HeadHook2
import PySem.Challenge.RW_fourbells_k01_fields_read
import HandS.Text
import KE.IntTextLaws
section
set_option Elab.async false
set_option linter.all false
set_option maxRecDepth 100000
set_option maxHeartbeats 2000000
/-! Mir0: data as trees with marks of ownership; what a heap holds of them. -/
namespace Mir
open PySem PySem.Spec PyProof.Rows L2

/-- data: a list, a dict or an instance bears a mark: own (nobody else holds it), or shared (never changed again) -/
inductive D where
  | non
  | bl (b : Bool)
  | int (i : Int)
  | str (x : Str)
  | val (v : V)
  | seq (vs : List V)
  | lst (o : Bool) (xs : List D)
  | tup (xs : List D)
  | dic (o : Bool) (ks : List Key) (xs : List D)
  | ins (o : Bool) (C : Str) (fs : List Str) (xs : List D)
  /-- the exception that a suite holds -/
  | exn
abbrev Env := List (Option D)
abbrev St := L2.St

/-- the written part, and where the classes stand -/
structure Cb where
  K : PySem.W.Frag
  cls : Str → Option Addr
/-- .. and the exceptions that are held: the dict's place, the fields, their data (shared) -/
structure Cn extends Cb where
  kp : List (Addr × List Str × List D) := []
  /-- where the exception stands that a suite holds -/
  ea : Option Addr := none
instance : Coe Cn Cb := ⟨Cn.toCb⟩
def Fx : HO → Prop
  | .ins _ _ _ => True
  | .xd _ => True
  | _ => False

section
variable (c : Cb) (Z : Addr → Prop) (H : Hp)
mutual
def Rep : D → V → List Addr → Prop
  | .non, v, fp => v = .non ∧ fp = []
  | .bl b, v, fp => v = .bl b ∧ fp = []
  | .int i, v, fp => v = .int i ∧ fp = []
  | .str x, v, fp => v = .str x ∧ fp = []
  | .val u, v, fp => v = u ∧ fp = []
  | .seq vs, v, fp => ∃ a, v = .ref a ∧ SqL c.K H a vs ∧ (Z a ∨ ∀ H', SqL c.K H' a vs) ∧ fp = []
  | .lst o xs, v, fp => ∃ a vs f, v = .ref a ∧ RepL xs vs f ∧
      if o = true then H a = some (.lst vs) ∧ fp = a :: f else Rd H a (.lst vs) ∧ Z a ∧ f = [] ∧ fp = []
  | .tup xs, v, fp => ∃ a vs, v = .ref a ∧ RepL xs vs fp ∧ SqT c.K H a vs
  | .dic o ks xs, v, fp => ∃ a vs f, v = .ref a ∧ RepL xs vs f ∧ ks.length = xs.length ∧
      if o = true then H a = some (.dK (ks.zip vs)) ∧ fp = a :: f else Rd H a (.dK (ks.zip vs)) ∧ Z a ∧ f = [] ∧ fp = []
  | .ins o C fs xs, v, fp => ∃ a vs f, v = .ref a ∧ RepL xs vs f ∧ fs.length = xs.length ∧
      ∃ A dx, c.cls C = some A ∧ H a = some (.ins A dx (fs.zip vs)) ∧ if o = true then fp = a :: f else Z a ∧ f = [] ∧ fp = []
  | .exn, v, fp => (∃ a, v = .ref a) ∧ fp = []
def RepL : List D → List V → List Addr → Prop
  | [], vs, fp => vs = [] ∧ fp = []
  | d :: ds, vs, fp => ∃ v r f g, vs = v :: r ∧ Rep d v f ∧ RepL ds r g ∧ fp = f ++ g
end
/-- what is held, one beside the other -/
def RepA : List (V × D) → List Addr → Prop
  | [], fp => fp = []
  | p :: L, fp => ∃ f g, Rep c Z H p.2 p.1 f ∧ RepA L g ∧ fp = f ++ g
end

/-- what a step of the heap leaves -/
structure Cmp (c : Cb) (Z : Addr → Prop) (H H' : Hp) (fp : List Addr) : Prop where
  rd : ∀ b u, Z b → Rd H b u → Rd H' b u
  ins : ∀ b o, Z b → Fx o → H b = some o → H' b = some o
  own : ∀ b ∈ fp, H' b = H b
  tup : ∀ b xs, SqT c.K H b xs → SqT c.K H' b xs
theorem Cmp.sub {c : Cb} {Z : Addr → Prop} {H H' : Hp} {f g : List Addr} (h : Cmp c Z H H' f) (s : ∀ b ∈ g, b ∈ f) : Cmp c Z H H' g := ⟨h.rd, h.ins, fun b hb => h.own b (s b hb), h.tup⟩

section
variable {c : Cb} {Z Z' : Addr → Prop} {H H' : Hp}
theorem sqL_of_rd {a : Addr} {vs : List V} (h : SqL c.K H a vs) (z : Z a ∨ ∀ H', SqL c.K H' a vs) (k : ∀ b u, Z b → Rd H b u → Rd H' b u) : SqL c.K H' a vs := by
  rcases z with z | z
  · rcases h with h | h
    · exact .inl (k _ _ z h)
    · exact .inr h
  · exact z H'
mutual
theorem Rep.mono (zz : ∀ b, Z b → Z' b) : ∀ (d : D) (v : V) (fp : List Addr), Cmp c Z H H' fp → Rep c Z H d v fp → Rep c Z' H' d v fp
  | .non, _, _, _, h => h
  | .bl _, _, _, _, h => h
  | .int _, _, _, _, h => h
  | .str _, _, _, _, h => h
  | .val _, _, _, _, h => h
  | .seq vs, v, fp, k, h => by
    simp only [Rep] at h ⊢
    obtain ⟨a, e, q1, q2, q3⟩ := h
    exact ⟨a, e, sqL_of_rd q1 q2 k.rd, q2.imp (zz a) id, q3⟩
  | .lst o xs, v, fp, k, h => by
    simp only [Rep] at h ⊢
    obtain ⟨a, vs, f, e, r, q⟩ := h
    cases o with
    | true =>
      simp only [if_true] at q ⊢
      obtain ⟨q1, q2⟩ := q
      refine ⟨a, vs, f, e, RepL.mono zz xs vs f (k.sub fun b hb => by rw [q2]; exact List.mem_cons_of_mem _ hb) r, ?_, q2⟩
      rw [k.own a (by rw [q2]; exact List.mem_cons_self), q1]
    | false =>
      simp only [Bool.false_eq_true, if_false] at q ⊢
      obtain ⟨q1, q2, q3, q4⟩ := q
      refine ⟨a, vs, f, e, RepL.mono zz xs vs f (k.sub fun b hb => by rw [q3] at hb; cases hb) r, k.rd _ _ q2 q1, zz _ q2, q3, q4⟩
  | .tup xs, v, fp, k, h => by
    simp only [Rep] at h ⊢
    obtain ⟨a, vs, e, r, q⟩ := h
    exact ⟨a, vs, e, RepL.mono zz xs vs fp k r, k.tup _ _ q⟩
  | .dic o ks xs, v, fp, k, h => by
    simp only [Rep] at h ⊢
    obtain ⟨a, vs, f, e, r, l, q⟩ := h
    cases o with
    | true =>
      simp only [if_true] at q ⊢
      obtain ⟨q1, q2⟩ := q
      refine ⟨a, vs, f, e, RepL.mono zz xs vs f (k.sub fun b hb => by rw [q2]; exact List.mem_cons_of_mem _ hb) r, l, ?_, q2⟩
      rw [k.own a (by rw [q2]; exact List.mem_cons_self), q1]
    | false =>
      simp only [Bool.false_eq_true, if_false] at q ⊢
      obtain ⟨q1, q2, q3, q4⟩ := q
      exact ⟨a, vs, f, e, RepL.mono zz xs vs f (k.sub fun b hb => by rw [q3] at hb; cases hb) r, l, k.rd _ _ q2 q1, zz _ q2, q3, q4⟩
  | .ins o C fs xs, v, fp, k, h => by
    simp only [Rep] at h ⊢
    obtain ⟨a, vs, f, e, r, l, A, dx, ec, q1, q⟩ := h
    cases o with
    | true =>
      simp only [if_true] at q ⊢
      refine ⟨a, vs, f, e, RepL.mono zz xs vs f (k.sub fun b hb => by rw [q]; exact List.mem_cons_of_mem _ hb) r, l, A, dx, ec, ?_, q⟩
      rw [k.own a (by rw [q]; exact List.mem_cons_self), q1]
    | false =>
      simp only [Bool.false_eq_true, if_false] at q ⊢
      obtain ⟨q2, q3, q4⟩ := q
      exact ⟨a, vs, f, e, RepL.mono zz xs vs f (k.sub fun b hb => by rw [q3] at hb; cases hb) r, l, A, dx, ec, k.ins _ _ q2 trivial q1, zz _ q2, q3, q4⟩
  | .exn, _, _, _, h => by simpa only [Rep] using h
theorem RepL.mono (zz : ∀ b, Z b → Z' b) : ∀ (ds : List D) (vs : List V) (fp : List Addr), Cmp c Z H H' fp → RepL c Z H ds vs fp → RepL c Z' H' ds vs fp
  | [], _, _, _, h => h
  | d :: ds, vs, fp, k, h => by
    simp only [RepL] at h ⊢
    obtain ⟨v, r, f, g, e, h1, h2, e2⟩ := h
    exact ⟨v, r, f, g, e, Rep.mono zz d v f (k.sub fun b hb => by rw [e2]; exact List.mem_append_left _ hb) h1, RepL.mono zz ds r g (k.sub fun b hb => by rw [e2]; exact List.mem_append_right _ hb) h2, e2⟩
end
theorem RepA.mono (zz : ∀ b, Z b → Z' b) : ∀ (L : List (V × D)) (fp : List Addr), Cmp c Z H H' fp → RepA c Z H L fp → RepA c Z' H' L fp
  | [], _, _, h => h
  | p :: L, fp, k, h => by
    obtain ⟨f, g, h1, h2, e⟩ := h
    exact ⟨f, g, Rep.mono zz _ _ f (k.sub fun b hb => by rw [e]; exact List.mem_append_left _ hb) h1, RepA.mono zz L g (k.sub fun b hb => by rw [e]; exact List.mem_append_right _ hb) h2, e⟩
mutual
/-- what is owned stands -/
theorem Rep.there : ∀ (d : D) (v : V) (fp : List Addr), Rep c Z H d v fp → ∀ b ∈ fp, ∃ o, H b = some o ∧ Mut (some o)
  | .non, _, _, h, b, hb => by rw [h.2] at hb; cases hb
  | .bl _, _, _, h, b, hb => by rw [h.2] at hb; cases hb
  | .int _, _, _, h, b, hb => by rw [h.2] at hb; cases hb
  | .str _, _, _, h, b, hb => by rw [h.2] at hb; cases hb
  | .val _, _, _, h, b, hb => by rw [h.2] at hb; cases hb
  | .seq _, _, _, h, b, hb => by
    simp only [Rep] at h
    obtain ⟨a, e, q1, q2, q3⟩ := h
    rw [q3] at hb; cases hb
  | .lst o xs, v, fp, h, b, hb => by
    simp only [Rep] at h
    obtain ⟨a, vs, f, e, r, q⟩ := h
    cases o with
    | true =>
      simp only [if_true] at q
      obtain ⟨q1, q2⟩ := q
      rw [q2] at hb
      rcases List.mem_cons.mp hb with z | z
      · subst z; exact ⟨_, q1, trivial⟩
      · exact RepL.there xs vs f r b z
    | false =>
      simp only [Bool.false_eq_true, if_false] at q
      rw [q.2.2.2] at hb; cases hb
  | .tup xs, v, fp, h, b, hb => by
    simp only [Rep] at h
    obtain ⟨a, vs, e, r, q⟩ := h
    exact RepL.there xs vs fp r b hb
  | .dic o ks xs, v, fp, h, b, hb => by
    simp only [Rep] at h
    obtain ⟨a, vs, f, e, r, l, q⟩ := h
    cases o with
    | true =>
      simp only [if_true] at q
      obtain ⟨q1, q2⟩ := q
      rw [q2] at hb
      rcases List.mem_cons.mp hb with z | z
      · subst z; exact ⟨_, q1, trivial⟩
      · exact RepL.there xs vs f r b z
    | false =>
      simp only [Bool.false_eq_true, if_false] at q
      rw [q.2.2.2] at hb; cases hb
  | .ins o C fs xs, v, fp, h, b, hb => by
    simp only [Rep] at h
    obtain ⟨a, vs, f, e, r, l, A, dx, ec, q1, q⟩ := h
    cases o with
    | true =>
      simp only [if_true] at q
      rw [q] at hb
      rcases List.mem_cons.mp hb with z | z
      · subst z; exact ⟨_, q1, trivial⟩
      · exact RepL.there xs vs f r b z
    | false =>
      simp only [Bool.false_eq_true, if_false] at q
      rw [q.2.2] at hb; cases hb
  | .exn, _, _, h, b, hb => by
    simp only [Rep] at h
    rw [h.2] at hb; cases hb
theorem RepL.there : ∀ (ds : List D) (vs : List V) (fp : List Addr), RepL c Z H ds vs fp → ∀ b ∈ fp, ∃ o, H b = some o ∧ Mut (some o)
  | [], _, _, h, b, hb => by rw [h.2] at hb; cases hb
  | d :: ds, vs, fp, h, b, hb => by
    simp only [RepL] at h
    obtain ⟨v, r, f, g, e, h1, h2, e2⟩ := h
    rw [e2] at hb
    rcases List.mem_append.mp hb with z | z
    · exact Rep.there d v f h1 b z
    · exact RepL.there ds r g h2 b z
end
theorem RepA.there : ∀ (L : List (V × D)) (fp : List Addr), RepA c Z H L fp → ∀ b ∈ fp, ∃ o, H b = some o ∧ Mut (some o)
  | [], _, h, b, hb => by rw [show _ = [] from h] at hb; cases hb
  | p :: L, fp, h, b, hb => by
    obtain ⟨f, g, h1, h2, e2⟩ := h
    rw [e2] at hb
    rcases List.mem_append.mp hb with z | z
    · exact Rep.there _ _ f h1 b z
    · exact RepA.there L g h2 b z
theorem RepL.len : ∀ (ds : List D) (vs : List V) (fp : List Addr), RepL c Z H ds vs fp → vs.length = ds.length
  | [], vs, _, h => by
    have e : vs = [] := h.1
    subst e
    rfl
  | d :: ds, vs, fp, h => by
    simp only [RepL] at h
    obtain ⟨v, r, f, g, e, h1, h2, e2⟩ := h
    rw [e, List.length_cons, List.length_cons, RepL.len ds r g h2]
theorem RepL.all : ∀ (ds : List D) (vs : List V) (fp : List Addr), RepL c Z H ds vs fp → RepA c Z H (vs.zip ds) fp
  | [], _, _, h => by rw [h.1, h.2]; rfl
  | d :: ds, vs, fp, h => by
    simp only [RepL] at h
    obtain ⟨v, r, f, g, e, h1, h2, e2⟩ := h
    rw [e, e2]
    exact ⟨f, g, h1, RepL.all ds r g h2, rfl⟩
theorem RepA.toL : ∀ (ds : List D) (vs : List V) (fp : List Addr), vs.length = ds.length → RepA c Z H (vs.zip ds) fp → RepL c Z H ds vs fp
  | [], [], _, _, h => ⟨rfl, h⟩
  | [], _ :: _, _, l, _ => by cases l
  | _ :: _, [], _, l, _ => by cases l
  | d :: ds, v :: vs, fp, l, h => by
    obtain ⟨f, g, h1, h2, e⟩ := h
    simp only [RepL]
    exact ⟨v, vs, f, g, rfl, h1, RepA.toL ds vs g (Nat.succ.inj l) h2, e⟩
theorem RepA.append : ∀ (L M : List (V × D)) (f g : List Addr), RepA c Z H L f → RepA c Z H M g → RepA c Z H (L ++ M) (f ++ g)
  | [], M, f, g, h, k => by rw [show f = [] from h]; exact k
  | p :: L, M, fp, g, h, k => by
    obtain ⟨f1, f2, h1, h2, e⟩ := h
    exact ⟨f1, f2 ++ g, h1, RepA.append L M f2 g h2 k, by rw [e, List.append_assoc]⟩
theorem RepA.split : ∀ (L M : List (V × D)) (fp : List Addr), RepA c Z H (L ++ M) fp → ∃ f g, RepA c Z H L f ∧ RepA c Z H M g ∧ fp = f ++ g
  | [], M, fp, h => ⟨[], fp, rfl, h, rfl⟩
  | p :: L, M, fp, h => by
    obtain ⟨f1, f2, h1, h2, e⟩ := h
    obtain ⟨f, g, h3, h4, e2⟩ := RepA.split L M f2 h2
    exact ⟨f1 ++ f, g, ⟨f1, f, h1, h3, rfl⟩, h4, by rw [e, e2, List.append_assoc]⟩
theorem RepA.perm {L M : List (V × D)} (p : L.Perm M) : ∀ fp, RepA c Z H L fp → ∃ fp', RepA c Z H M fp' ∧ fp.Perm fp' := by
  induction p with
  | nil => exact fun fp h => ⟨fp, h, .refl _⟩
  | cons x p ih =>
    intro fp h
    obtain ⟨f, g, h1, h2, e⟩ := h
    obtain ⟨g', h3, q⟩ := ih g h2
    exact ⟨f ++ g', ⟨f, g', h1, h3, rfl⟩, by rw [e]; exact List.Perm.append_left f q⟩
  | swap x y l =>
    intro fp h
    obtain ⟨f, g, h1, ⟨f', g', h2, h3, e2⟩, e⟩ := h
    refine ⟨f' ++ (f ++ g'), ⟨f', f ++ g', h2, ⟨f, g', h1, h3, rfl⟩, rfl⟩, ?_⟩
    rw [e, e2, ← List.append_assoc, ← List.append_assoc]
    exact List.Perm.append_right g' List.perm_append_comm
  | trans p q ih1 ih2 =>
    intro fp h
    obtain ⟨f1, h1, q1⟩ := ih1 fp h
    obtain ⟨f2, h2, q2⟩ := ih2 f1 h1
    exact ⟨f2, h2, q1.trans q2⟩
theorem RepA.sub {L M : List (V × D)} (p : M.Sublist L) : ∀ fp, RepA c Z H L fp → ∃ fp', RepA c Z H M fp' ∧ fp'.Sublist fp := by
  induction p with
  | slnil => exact fun fp h => ⟨fp, h, .refl _⟩
  | cons x p ih =>
    intro fp h
    obtain ⟨f, g, h1, h2, e⟩ := h
    obtain ⟨g', h3, q⟩ := ih g h2
    exact ⟨g', h3, by rw [e]; exact q.trans (List.sublist_append_right f g)⟩
  | cons_cons x p ih =>
    intro fp h
    obtain ⟨f, g, h1, h2, e⟩ := h
    obtain ⟨g', h3, q⟩ := ih g h2
    exact ⟨f ++ g', ⟨f, g', h1, h3, rfl⟩, by rw [e]; exact List.Sublist.append (.refl f) q⟩
end

/-- an exception that is held -/
def Kp (c : Cb) (Z : Addr → Prop) (H : Hp) (p : Addr × List Str × List D) : Prop := ∃ vs, H p.1 = some (.xd (p.2.1.zip vs)) ∧ Z p.1 ∧ p.2.1.length = p.2.2.length ∧ RepL c Z H p.2.2 vs []
/-- what is shared stands -/
structure ZOk (c : Cn) (Z : Addr → Prop) (H : Hp) : Prop where
  at' : ∀ a, Z a → ∃ o, H a = some o
  kp : ∀ p ∈ c.kp, Kp c.toCb Z H p
theorem Kp.mono {c : Cb} {Z Z' : Addr → Prop} {H H' : Hp} {p : Addr × List Str × List D} (zz : ∀ b, Z b → Z' b) (k : Cmp c Z H H' []) (h : Kp c Z H p) : Kp c Z' H' p := by
  obtain ⟨vs, h1, h2, h3, h4⟩ := h
  exact ⟨vs, k.ins _ _ h2 trivial h1, zz _ h2, h3, RepL.mono zz _ _ _ k h4⟩
/-- THE STATE: all of L is held, what it owns lies apart, and apart from R -/
def Good (c : Cn) (H : Hp) (R : List Addr) (L : List (V × D)) : Prop :=
  ∃ (Z : Addr → Prop) (fp : List Addr), RepA c.toCb Z H L fp ∧ (fp ++ R).Nodup ∧ (∀ a ∈ fp ++ R, ¬ Z a) ∧ ZOk c Z H
section
variable {c : Cn} {H H' : Hp} {R : List Addr} {L M : List (V × D)}
theorem Good.perm (g : Good c H R L) (p : L.Perm M) : Good c H R M := by
  obtain ⟨Z, fp, h, nd, nz, zt⟩ := g
  obtain ⟨fp', h', q⟩ := RepA.perm p fp h
  have q' : (fp ++ R).Perm (fp' ++ R) := List.Perm.append_right R q
  exact ⟨Z, fp', h', q'.nodup nd, fun a ha => nz a (q'.symm.subset ha), zt⟩
theorem Good.sub (g : Good c H R L) (p : M.Sublist L) : Good c H R M := by
  obtain ⟨Z, fp, h, nd, nz, zt⟩ := g
  obtain ⟨fp', h', q⟩ := RepA.sub p fp h
  have q' : (fp' ++ R).Sublist (fp ++ R) := List.Sublist.append q (.refl R)
  exact ⟨Z, fp', h', nd.sublist q', fun a ha => nz a (q'.subset ha), zt⟩
theorem Good.tail {p : V × D} (g : Good c H R (p :: L)) : Good c H R L := g.sub (List.sublist_cons_self p L)
theorem Good.drop1 {p q : V × D} (g : Good c H R (p :: q :: L)) : Good c H R (p :: L) := g.sub ((List.sublist_cons_self q L).cons_cons p)
theorem Good.swap {p q : V × D} (g : Good c H R (p :: q :: L)) : Good c H R (q :: p :: L) := g.perm (.swap q p L)
/-- a step of the heap at what is reserved -/
theorem Good.step (g : Good c H R L) {a : Addr} (ha : a ∈ R) (k : ∀ b, b ≠ a → H' b = H b) (nt : ∀ xs, SqT c.K H a xs → SqT c.K H' a xs) : Good c H' R L := by
  obtain ⟨Z, fp, h, nd, nz, zt⟩ := g
  have za : ¬ Z a := nz a (List.mem_append_right _ ha)
  have fa : a ∉ fp := fun hm => (List.nodup_append.mp nd).2.2 a hm a ha rfl
  have cm : Cmp c.toCb Z H H' fp := by
    refine ⟨fun b u z r => ?_, fun b o z _ e => ?_, fun b hb => k b fun e => fa (e ▸ hb), fun b xs q => ?_⟩
    · have nb : b ≠ a := fun e => za (e ▸ z)
      unfold Rd at r ⊢
      rw [k b nb]
      exact r
    · rw [k b fun e => za (e ▸ z)]
      exact e
    · by_cases e : b = a
      · subst e
        exact nt xs q
      · rcases q with q | q
        · refine .inl ?_
          unfold Rd at q ⊢
          rw [k b e]
          exact q
        · exact .inr q
  refine ⟨Z, fp, RepA.mono (fun _ z => z) L fp cm h, nd, nz, fun b z => ?_, fun p hp => (zt.kp p hp).mono (fun _ z => z) (cm.sub fun b hb => by cases hb)⟩
  rw [k b fun e => za (e ▸ z)]
  exact zt.at' b z
end

/-! ### shared for good -/
mutual
def fz : D → D
  | .non => .non
  | .bl b => .bl b
  | .int i => .int i
  | .str x => .str x
  | .val v => .val v
  | .seq vs => .seq vs
  | .lst _ xs => .lst false (fzL xs)
  | .tup xs => .tup (fzL xs)
  | .dic _ ks xs => .dic false ks (fzL xs)
  | .ins _ C fs xs => .ins false C fs (fzL xs)
  | .exn => .exn
def fzL : List D → List D
  | [] => []
  | d :: ds => fz d :: fzL ds
end
theorem fzL_map : ∀ ds, fzL ds = ds.map fz
  | [] => rfl
  | d :: ds => by
    rw [fzL, fzL_map ds]
    rfl
theorem fzL_len (ds : List D) : (fzL ds).length = ds.length := by rw [fzL_map, List.length_map]
mutual
theorem fz_fz : ∀ d, fz (fz d) = fz d
  | .non => rfl
  | .bl _ => rfl
  | .int _ => rfl
  | .str _ => rfl
  | .val _ => rfl
  | .seq _ => rfl
  | .lst _ xs => by simp only [fz, fzL_fzL xs]
  | .tup xs => by simp only [fz, fzL_fzL xs]
  | .dic _ _ xs => by simp only [fz, fzL_fzL xs]
  | .ins _ _ _ xs => by simp only [fz, fzL_fzL xs]
  | .exn => rfl
theorem fzL_fzL : ∀ ds, fzL (fzL ds) = fzL ds
  | [] => rfl
  | d :: ds => by simp only [fzL, fz_fz d, fzL_fzL ds]
end
section
variable {c : Cb} {Z Z' : Addr → Prop} {H : Hp}
mutual
theorem Rep.freeze (zz : ∀ b, Z b → Z' b) : ∀ (d : D) (v : V) (fp : List Addr), (∀ a ∈ fp, Z' a) → Rep c Z H d v fp → Rep c Z' H (fz d) v []
  | .non, _, _, _, h => ⟨h.1, rfl⟩
  | .bl _, _, _, _, h => ⟨h.1, rfl⟩
  | .int _, _, _, _, h => ⟨h.1, rfl⟩
  | .str _, _, _, _, h => ⟨h.1, rfl⟩
  | .val _, _, _, _, h => ⟨h.1, rfl⟩
  | .seq vs, v, fp, k, h => by
    simp only [Rep, fz] at h ⊢
    obtain ⟨a, e, q1, q2, q3⟩ := h
    exact ⟨a, e, q1, q2.imp (zz a) id, trivial⟩
  | .lst o xs, v, fp, k, h => by
    simp only [Rep, fz] at h ⊢
    obtain ⟨a, vs, f, e, r, q⟩ := h
    simp only [Bool.false_eq_true, if_false]
    cases o with
    | true =>
      simp only [if_true] at q
      obtain ⟨q1, q2⟩ := q
      exact ⟨a, vs, [], e, RepL.freeze zz xs vs f (fun b hb => k b (by rw [q2]; exact List.mem_cons_of_mem _ hb)) r, .of q1, k a (by rw [q2]; exact List.mem_cons_self), rfl, trivial⟩
    | false =>
      simp only [Bool.false_eq_true, if_false] at q
      obtain ⟨q1, q2, q3, q4⟩ := q
      exact ⟨a, vs, [], e, RepL.freeze zz xs vs f (fun b hb => by rw [q3] at hb; cases hb) r, q1, zz _ q2, rfl, trivial⟩
  | .tup xs, v, fp, k, h => by
    simp only [Rep, fz] at h ⊢
    obtain ⟨a, vs, e, r, q⟩ := h
    exact ⟨a, vs, e, RepL.freeze zz xs vs fp k r, q⟩
  | .dic o ks xs, v, fp, k, h => by
    simp only [Rep, fz] at h ⊢
    obtain ⟨a, vs, f, e, r, l, q⟩ := h
    simp only [Bool.false_eq_true, if_false]
    rw [fzL_len]
    cases o with
    | true =>
      simp only [if_true] at q
      obtain ⟨q1, q2⟩ := q
      exact ⟨a, vs, [], e, RepL.freeze zz xs vs f (fun b hb => k b (by rw [q2]; exact List.mem_cons_of_mem _ hb)) r, l, .of q1, k a (by rw [q2]; exact List.mem_cons_self), rfl, trivial⟩
    | false =>
      simp only [Bool.false_eq_true, if_false] at q
      obtain ⟨q1, q2, q3, q4⟩ := q
      exact ⟨a, vs, [], e, RepL.freeze zz xs vs f (fun b hb => by rw [q3] at hb; cases hb) r, l, q1, zz _ q2, rfl, trivial⟩
  | .ins o C fs xs, v, fp, k, h => by
    simp only [Rep, fz] at h ⊢
    obtain ⟨a, vs, f, e, r, l, A, dx, ec, q1, q⟩ := h
    simp only [Bool.false_eq_true, if_false]
    rw [fzL_len]
    cases o with
    | true =>
      simp only [if_true] at q
      exact ⟨a, vs, [], e, RepL.freeze zz xs vs f (fun b hb => k b (by rw [q]; exact List.mem_cons_of_mem _ hb)) r, l, A, dx, ec, q1, k a (by rw [q]; exact List.mem_cons_self), rfl, trivial⟩
    | false =>
      simp only [Bool.false_eq_true, if_false] at q
      obtain ⟨q2, q3, q4⟩ := q
      exact ⟨a, vs, [], e, RepL.freeze zz xs vs f (fun b hb => by rw [q3] at hb; cases hb) r, l, A, dx, ec, q1, zz _ q2, rfl, trivial⟩
  | .exn, _, _, _, h => by
    simp only [Rep, fz] at h ⊢
    exact ⟨h.1, trivial⟩
theorem RepL.freeze (zz : ∀ b, Z b → Z' b) : ∀ (ds : List D) (vs : List V) (fp : List Addr), (∀ a ∈ fp, Z' a) → RepL c Z H ds vs fp → RepL c Z' H (fzL ds) vs []
  | [], _, _, _, h => ⟨h.1, rfl⟩
  | d :: ds, vs, fp, k, h => by
    simp only [RepL, fzL] at h ⊢
    obtain ⟨v, r, f, g, e, h1, h2, e2⟩ := h
    exact ⟨v, r, [], [], e, Rep.freeze zz d v f (fun b hb => k b (by rw [e2]; exact List.mem_append_left _ hb)) h1, RepL.freeze zz ds r g (fun b hb => k b (by rw [e2]; exact List.mem_append_right _ hb)) h2, rfl⟩
end
end
section
variable {c : Cn} {H H' : Hp} {R : List Addr} {L M : List (V × D)} {v : V} {d : D}
/-- a thing is shared from now on: it may be held twice -/
theorem Good.dup (g : Good c H R ((v, d) :: L)) : Good c H R ((v, fz d) :: (v, fz d) :: L) := by
  obtain ⟨Z, fp, ⟨f, g, h1, h2, e⟩, nd, nz, zt⟩ := g
  subst e
  have nd' : (f ++ (g ++ R)).Nodup := by rw [← List.append_assoc]; exact nd
  have ap := (List.nodup_append.mp nd').2.2
  have h1' : Rep c (fun a => Z a ∨ a ∈ f) H (fz d) v [] := Rep.freeze (fun _ z => .inl z) d v f (fun a ha => .inr ha) h1
  have h2' : RepA c (fun a => Z a ∨ a ∈ f) H L g := RepA.mono (fun _ z => .inl z) L g ⟨fun _ _ _ r => r, fun _ _ _ _ e => e, fun _ _ => rfl, fun _ _ q => q⟩ h2
  refine ⟨fun a => Z a ∨ a ∈ f, g, ⟨[], g, h1', ⟨[], g, h1', h2', rfl⟩, rfl⟩, (List.nodup_append.mp nd').2.1, fun a ha z => ?_, fun a z => ?_, fun p hp => (zt.kp p hp).mono (fun _ z => .inl z) ⟨fun _ _ _ r => r, fun _ _ _ _ e => e, fun _ _ => rfl, fun _ _ q => q⟩⟩
  · rcases z with z | z
    · exact nz a (by rw [List.append_assoc]; exact List.mem_append_right _ ha) z
    · exact ap a z a ha rfl
  · rcases z with z | z
    · exact zt.at' a z
    · obtain ⟨o, e, _⟩ := Rep.there d v f h1 a z
      exact ⟨o, e⟩
theorem Good.freeze (g : Good c H R ((v, d) :: L)) : Good c H R ((v, fz d) :: L) := g.dup.tail
/-- a free place is reserved -/
theorem Good.fresh (g : Good c H R L) {p : Addr} (hp : H p = none) (hR : p ∉ R) : Good c H (p :: R) L := by
  obtain ⟨Z, fp, h, nd, nz, zt⟩ := g
  have np : p ∉ fp := fun hm => by
    obtain ⟨o, e, _⟩ := RepA.there L fp h p hm
    rw [hp] at e; cases e
  have q : (p :: (fp ++ R)).Perm (fp ++ p :: R) := (List.perm_middle).symm
  refine ⟨Z, fp, h, q.nodup (List.nodup_cons.mpr ⟨fun hm => (List.mem_append.mp hm).elim np hR, nd⟩), fun a ha z => ?_, zt⟩
  rcases List.mem_cons.mp (q.symm.subset ha) with e | e
  · subst e
    obtain ⟨o, e⟩ := zt.at' a z
    rw [hp] at e; cases e
  · exact nz a e z
/-- an own list is opened: its place is reserved -/
theorem Good.openL {ds : List D} (g : Good c H R ((v, .lst true ds) :: L)) : ∃ a vs, v = .ref a ∧ H a = some (.lst vs) ∧ vs.length = ds.length ∧ Good c H (a :: R) (vs.zip ds ++ L) := by
  obtain ⟨Z, fp, ⟨f, g, h1, h2, e⟩, nd, nz, zt⟩ := g
  simp only [Rep, if_true] at h1
  obtain ⟨a, vs, f', ev, r, q1, q2⟩ := h1
  subst e q2
  have q : (a :: f' ++ g ++ R).Perm (f' ++ g ++ a :: R) := by
    show (a :: (f' ++ g ++ R)).Perm (f' ++ g ++ a :: R)
    exact List.perm_middle.symm
  exact ⟨a, vs, ev, q1, RepL.len _ _ _ r, Z, f' ++ g, RepA.append _ _ _ _ (RepL.all _ _ _ r) h2, q.nodup nd, fun b hb => nz b (q.symm.subset hb), zt⟩
/-- .. and a list is laid there -/
theorem Good.closeL {ds : List D} {vs : List V} {a : Addr} (g : Good c H (a :: R) (vs.zip ds ++ L)) (hl : vs.length = ds.length) (hm : H a = none ∨ Mut (H a)) : Good c (upd H a (.lst vs)) R ((.ref a, .lst true ds) :: L) := by
  have g' : Good c (upd H a (.lst vs)) (a :: R) (vs.zip ds ++ L) := g.step List.mem_cons_self (fun b hb => upd_ne hb) fun xs q => by
    rcases q with q | q
    · rcases q with q | ⟨o, q⟩ <;> rcases hm with z | z <;> rw [q] at z <;> first | cases z | exact z.elim
    · exact .inr q
  obtain ⟨Z, fp, h, nd, nz, zt⟩ := g'
  obtain ⟨f, g, h1, h2, e⟩ := RepA.split _ _ _ h
  subst e
  have q : (f ++ g ++ a :: R).Perm (a :: f ++ g ++ R) := List.perm_middle
  refine ⟨Z, a :: f ++ g, ⟨a :: f, g, ?_, h2, rfl⟩, q.nodup nd, fun b hb => nz b (q.symm.subset hb), zt⟩
  simp only [Rep, if_true]
  exact ⟨a, vs, f, rfl, RepA.toL _ _ _ hl h1, upd_same, rfl⟩
/-- a shared list is read -/
theorem Good.readL {ds : List D} (g : Good c H R ((v, .lst false ds) :: L)) : ∃ a vs, v = .ref a ∧ Rd H a (.lst vs) ∧ vs.length = ds.length ∧ Good c H R (vs.zip ds ++ (v, .seq vs) :: L) := by
  obtain ⟨Z, fp, ⟨f, g, h1, h2, e⟩, nd, nz, zt⟩ := g
  simp only [Rep, Bool.false_eq_true, if_false] at h1
  obtain ⟨a, vs, f', ev, r, q1, q2, q3, q4⟩ := h1
  subst q3 q4 e
  have h1' : Rep c Z H (.seq vs) v [] := by
    simp only [Rep]
    exact ⟨a, ev, .inl q1, .inl q2, trivial⟩
  exact ⟨a, vs, ev, q1, RepL.len _ _ _ r, Z, [] ++ ([] ++ fp), RepA.append _ _ _ _ (RepL.all _ _ _ r) ⟨[], fp, h1', h2, rfl⟩, nd, nz, zt⟩
/-- a tuple is read -/
theorem Good.openT {ds : List D} (g : Good c H R ((v, .tup ds) :: L)) : ∃ a vs, v = .ref a ∧ SqT c.K H a vs ∧ vs.length = ds.length ∧ Good c H R (vs.zip ds ++ L) := by
  obtain ⟨Z, fp, ⟨f, g, h1, h2, e⟩, nd, nz, zt⟩ := g
  simp only [Rep] at h1
  obtain ⟨a, vs, ev, r, q⟩ := h1
  subst e
  exact ⟨a, vs, ev, q, RepL.len _ _ _ r, Z, f ++ g, RepA.append _ _ _ _ (RepL.all _ _ _ r) h2, nd, nz, zt⟩
theorem Good.closeT {ds : List D} {vs : List V} {a : Addr} (g : Good c H R (vs.zip ds ++ L)) (hl : vs.length = ds.length) (hq : SqT c.K H a vs) : Good c H R ((.ref a, .tup ds) :: L) := by
  obtain ⟨Z, fp, h, nd, nz, zt⟩ := g
  obtain ⟨f, g, h1, h2, e⟩ := RepA.split _ _ _ h
  subst e
  refine ⟨Z, f ++ g, ⟨f, g, ?_, h2, rfl⟩, nd, nz, zt⟩
  simp only [Rep]
  exact ⟨a, vs, rfl, RepA.toL _ _ _ hl h1, hq⟩
/-- a new tuple -/
theorem Good.newT {ds : List D} {vs : List V} {p : Addr} (g : Good c H R (vs.zip ds ++ L)) (hl : vs.length = ds.length) (hp : H p = none) (hR : p ∉ R) : Good c (upd H p (.tup vs)) R ((.ref p, .tup ds) :: L) := by
  have g' : Good c (upd H p (.tup vs)) (p :: R) (vs.zip ds ++ L) := (g.fresh hp hR).step List.mem_cons_self (fun b hb => upd_ne hb) fun xs q => by
    rcases q with q | q
    · rcases q with q | ⟨o, q⟩ <;> rw [hp] at q <;> cases q
    · exact .inr q
  have g'' : Good c (upd H p (.tup vs)) R (vs.zip ds ++ L) := by
    obtain ⟨Z, fp, h, nd, nz, zt⟩ := g'
    have s : (fp ++ R).Sublist (fp ++ p :: R) := List.Sublist.append (.refl _) (List.sublist_cons_self p R)
    exact ⟨Z, fp, h, nd.sublist s, fun a ha => nz a (s.subset ha), zt⟩
  exact g''.closeT hl (.of upd_same)
/-- a new list -/
theorem Good.newL {ds : List D} {vs : List V} {p : Addr} (g : Good c H R (vs.zip ds ++ L)) (hl : vs.length = ds.length) (hp : H p = none) (hR : p ∉ R) : Good c (upd H p (.lst vs)) R ((.ref p, .lst true ds) :: L) :=
  (g.fresh hp hR).closeL hl (.inl hp)
/-- what is known of a plain thing -/
theorem Good.head (g : Good c H R ((v, d) :: L)) : ∃ Z f, Rep c Z H d v f := by
  obtain ⟨Z, fp, ⟨f, g, h1, _, _⟩, _⟩ := g
  exact ⟨Z, f, h1⟩
theorem Good.isI {i : Int} (g : Good c H R ((v, .int i) :: L)) : v = .int i := by
  obtain ⟨Z, f, h⟩ := g.head
  exact h.1
theorem Good.isS {i : Str} (g : Good c H R ((v, .str i) :: L)) : v = .str i := by
  obtain ⟨Z, f, h⟩ := g.head
  exact h.1
theorem Good.isB {i : Bool} (g : Good c H R ((v, .bl i) :: L)) : v = .bl i := by
  obtain ⟨Z, f, h⟩ := g.head
  exact h.1
theorem Good.isN (g : Good c H R ((v, .non) :: L)) : v = .non := by
  obtain ⟨Z, f, h⟩ := g.head
  exact h.1
theorem Good.isV {u : V} (g : Good c H R ((v, .val u) :: L)) : v = u := by
  obtain ⟨Z, f, h⟩ := g.head
  exact h.1
/-- a plain thing beside -/
theorem Good.flat (g : Good c H R L) (h : ∀ Z, Rep c Z H d v []) : Good c H R ((v, d) :: L) := by
  obtain ⟨Z, fp, q, nd, nz, zt⟩ := g
  exact ⟨Z, fp, ⟨[], fp, h Z, q, rfl⟩, nd, nz, zt⟩
theorem Good.addI (g : Good c H R L) (i : Int) : Good c H R ((.int i, .int i) :: L) := g.flat fun _ => ⟨rfl, rfl⟩
theorem Good.addS (g : Good c H R L) (i : Str) : Good c H R ((.str i, .str i) :: L) := g.flat fun _ => ⟨rfl, rfl⟩
theorem Good.addB (g : Good c H R L) (i : Bool) : Good c H R ((.bl i, .bl i) :: L) := g.flat fun _ => ⟨rfl, rfl⟩
theorem Good.addN (g : Good c H R L) : Good c H R ((.non, .non) :: L) := g.flat fun _ => ⟨rfl, rfl⟩
theorem Good.addV (g : Good c H R L) (u : V) : Good c H R ((u, .val u) :: L) := g.flat fun _ => ⟨rfl, rfl⟩
/-- one of a row -/
theorem zip_at : ∀ {vs : List V} {ds : List D} {k : Nat} {x : V} {d : D}, vs[k]? = some x → ds[k]? = some d → (vs.zip ds).Perm ((x, d) :: (vs.eraseIdx k).zip (ds.eraseIdx k))
  | [], _, _, _, _, h, _ => by simp at h
  | _ :: _, [], _, _, _, _, h => by simp at h
  | v :: vs, e :: ds, 0, x, d, h, k => by
    simp at h k
    subst h k
    exact .refl _
  | v :: vs, e :: ds, k + 1, x, d, h, q => by
    have ih := zip_at (vs := vs) (ds := ds) (k := k) (x := x) (d := d) (by simpa using h) (by simpa using q)
    exact (List.Perm.cons (v, e) ih).trans (.swap _ _ _)
theorem zip_set {vs : List V} {ds : List D} {k : Nat} {x : V} {d : D} (h : vs[k]? = some x) (hk : k < ds.length) : (vs.zip (ds.set k d)).Perm ((x, d) :: (vs.eraseIdx k).zip (ds.eraseIdx k)) := by
  have q := zip_at (ds := ds.set k d) (d := d) h (List.getElem?_set_self hk)
  rw [List.eraseIdx_set_eq] at q
  exact q
theorem get_of_len {vs : List V} {ds : List D} {k : Nat} {d : D} (hl : vs.length = ds.length) (h : ds[k]? = some d) : ∃ x, vs[k]? = some x := by
  have h1 := (List.getElem?_eq_some_iff.mp h).1
  exact ⟨vs[k]'(by omega), List.getElem?_eq_getElem (by omega)⟩
/-- one of a row is shared -/
theorem Good.at {vs : List V} {ds : List D} {k : Nat} {x : V} (g : Good c H R (vs.zip ds ++ L)) (h : vs[k]? = some x) (q : ds[k]? = some d) : Good c H R ((x, fz d) :: (vs.zip (ds.set k (fz d)) ++ L)) := by
  have g1 := g.perm (List.Perm.append_right L (zip_at h q))
  have g2 : Good c H R ((x, fz d) :: (x, fz d) :: ((vs.eraseIdx k).zip (ds.eraseIdx k) ++ L)) := Good.dup g1
  refine g2.perm (List.Perm.cons _ ?_)
  exact (List.Perm.append_right L (zip_set h (List.getElem?_eq_some_iff.mp q).1)).symm
/-- a list, own or shared: its things, and how it is put together again -/
theorem Good.anyL {o : Bool} {ds : List D} (g : Good c H R ((v, .lst o ds) :: L)) : ∃ a vs, v = .ref a ∧ Rd H a (.lst vs) ∧ vs.length = ds.length ∧
    ∀ H' : Hp, (∀ b u, H b = some u → H' b = some u) → True := by
  cases o with
  | true =>
    obtain ⟨a, vs, e, h, l, _⟩ := g.openL
    exact ⟨a, vs, e, .of h, l, fun _ _ => trivial⟩
  | false =>
    obtain ⟨a, vs, e, h, l, _⟩ := g.readL
    exact ⟨a, vs, e, h, l, fun _ _ => trivial⟩
theorem fz_eq_of_false {ds : List D} {Z : Addr → Prop} {v : V} {f : List Addr} (h : Rep c Z H (.lst false ds) v f) : True := trivial
end
end Mir
end
section
set_option Elab.async false
set_option linter.all false
set_option maxRecDepth 100000
set_option maxHeartbeats 2000000
/-! Mir1: what a piece of a program yields, as a function of the slots' data; readings that keep to it. -/
namespace Mir
open PySem PySem.Spec PyProof.Rows L2

structure Exn where
  cls : Str
  fs : List Str
  xs : List D
inductive Out (α : Type) where
  | ok (a : α) (ρ : Env)
  | err (x : Exn) (ρ : Env)
  | bad
def M (α : Type) := Env → Out α
def M.bind {α β : Type} (f : M α) (g : α → M β) : M β := fun ρ => match f ρ with
  | .ok a ρ' => g a ρ'
  | .err x ρ' => .err x ρ'
  | .bad => .bad
instance : Monad M where
  pure a := fun ρ => .ok a ρ
  bind := M.bind
def badM {α : Type} : M α := fun _ => .bad
def optM {α : Type} (o : Option α) : M α := match o with
  | some a => pure a
  | none => badM
def peek (i : Nat) : M D := fun ρ => match ρ[i]? with
  | some (some d) => .ok d ρ
  | _ => .bad
def setv (i : Nat) (d : Option D) : M Unit := fun ρ => .ok () (ρ.set i d)
def isx : D → Bool
  | .exn => true
  | _ => false
theorem isx_fz : ∀ d, isx (fz d) = isx d
  | .non => rfl
  | .bl _ => rfl
  | .int _ => rfl
  | .str _ => rfl
  | .val _ => rfl
  | .seq _ => rfl
  | .lst _ _ => rfl
  | .tup _ => rfl
  | .dic _ _ _ => rfl
  | .ins _ _ _ _ => rfl
  | .exn => rfl
theorem isx_eq {d : D} (h : isx d = true) : d = .exn := by
  cases d <;> first | rfl | cases h
/-- a thing that is not a held exception -/
def setq (i : Nat) (d : D) : M Unit := fun ρ => if isx d = true then .bad else .ok () (ρ.set i (some d))
/-- a name is read: its thing is shared from now on -/
def rdv (i : Nat) : M D := do
  let d ← peek i
  setv i (some (fz d))
  pure (fz d)
/-- a name is read for the last time -/
def mvv (i : Nat) : M D := do
  let d ← peek i
  setv i none
  pure d

def OPost {α : Type} (K : α → Env → Prop) (KE : Exn → Env → Prop) : Out α → Prop
  | .ok a ρ => K a ρ
  | .err x ρ => KE x ρ
  | .bad => False
theorem OPost.imp {α : Type} {K K' : α → Env → Prop} {KE KE' : Exn → Env → Prop} {o : Out α} (h : OPost K KE o) (k : ∀ a ρ, K a ρ → K' a ρ) (e : ∀ x ρ, KE x ρ → KE' x ρ) : OPost K' KE' o := by
  cases o with
  | ok a ρ => exact k _ _ h
  | err x ρ => exact e _ _ h
  | bad => exact h
theorem bind_post {α β : Type} {K : β → Env → Prop} {KE : Exn → Env → Prop} {f : M α} {g : α → M β} {ρ : Env} : OPost K KE ((f >>= g) ρ) ↔ OPost (fun a ρ' => OPost K KE (g a ρ')) KE (f ρ) := by
  show OPost K KE (M.bind f g ρ) ↔ _
  unfold M.bind
  cases f ρ <;> exact Iff.rfl
theorem pure_post {α : Type} {K : α → Env → Prop} {KE : Exn → Env → Prop} {a : α} {ρ : Env} : OPost K KE ((pure a : M α) ρ) ↔ K a ρ := Iff.rfl
theorem bad_post {α : Type} {K : α → Env → Prop} {KE : Exn → Env → Prop} {ρ : Env} : OPost K KE ((badM : M α) ρ) ↔ False := Iff.rfl
theorem opt_post {α : Type} {K : α → Env → Prop} {KE : Exn → Env → Prop} {o : Option α} {ρ : Env} : OPost K KE (optM o ρ) ↔ ∃ a, o = some a ∧ K a ρ := by
  cases o with
  | none => exact ⟨fun h => h.elim, fun ⟨_, e, _⟩ => nomatch e⟩
  | some a => exact ⟨fun h => ⟨a, rfl, h⟩, fun ⟨_, e, h⟩ => by cases e; exact h⟩
theorem peek_post {K : D → Env → Prop} {KE : Exn → Env → Prop} {i : Nat} {ρ : Env} : OPost K KE (peek i ρ) ↔ ∃ d, ρ[i]? = some (some d) ∧ K d ρ := by
  unfold peek
  cases h : ρ[i]? with
  | none => exact ⟨fun h => h.elim, fun ⟨_, e, _⟩ => nomatch e⟩
  | some o =>
    cases o with
    | none => exact ⟨fun h => h.elim, fun ⟨_, e, _⟩ => nomatch e⟩
    | some d => exact ⟨fun h => ⟨d, rfl, h⟩, fun ⟨_, e, h⟩ => by cases e; exact h⟩
theorem setv_post {K : Unit → Env → Prop} {KE : Exn → Env → Prop} {i : Nat} {d : Option D} {ρ : Env} : OPost K KE (setv i d ρ) ↔ K () (ρ.set i d) := Iff.rfl
theorem setq_post {K : Unit → Env → Prop} {KE : Exn → Env → Prop} {i : Nat} {d : D} {ρ : Env} (h : OPost K KE (setq i d ρ)) : some d ≠ some D.exn ∧ K () (ρ.set i (some d)) := by
  unfold setq at h
  by_cases q : isx d = true
  · rw [if_pos q] at h
    exact h.elim
  · rw [if_neg q] at h
    exact ⟨fun z => q (by cases z; rfl), h⟩

/-! ### the slots -/
def sl : List (Option V) → Env → List (V × D)
  | some v :: σ, some d :: ρ => (v, d) :: sl σ ρ
  | _ :: σ, _ :: ρ => sl σ ρ
  | _, _ => []
structure Fit (c : Cn) (σ : St) (ρ : Env) : Prop where
  len : σ.length = ρ.length
  has : ∀ (i : Nat) (d : D), ρ[i]? = some (some d) → ∃ v, σ[i]? = some (some v)
  exn : ∀ (i : Nat), ρ[i]? = some (some .exn) → ∃ a, c.ea = some a ∧ σ[i]? = some (some (.ref a))
theorem sl_nil : ∀ σ : St, sl σ [] = []
  | [] => rfl
  | none :: _ => rfl
  | some _ :: _ => rfl
theorem sl_get : ∀ {σ : St} {ρ : Env} {i : Nat} {d : D} {v : V}, ρ[i]? = some (some d) → σ[i]? = some (some v) → (sl σ ρ).Perm ((v, d) :: sl σ (ρ.set i none))
  | [], _, _, _, _, _, h => by simp at h
  | _ :: _, [], _, _, _, h, _ => by simp at h
  | s :: σ, r :: ρ, 0, d, v, h, k => by
    simp at h k
    subst h k
    show ((v, d) :: sl σ ρ).Perm ((v, d) :: sl (some v :: σ) (none :: ρ))
    exact .refl _
  | s :: σ, r :: ρ, i + 1, d, v, h, k => by
    have ih := sl_get (σ := σ) (ρ := ρ) (i := i) (d := d) (v := v) (by simpa using h) (by simpa using k)
    cases s with
    | none => exact ih
    | some u =>
      cases r with
      | none => exact ih
      | some e =>
        show ((u, e) :: sl σ ρ).Perm ((v, d) :: (u, e) :: sl σ (ρ.set i none))
        exact (List.Perm.cons (u, e) ih).trans (.swap _ _ _)
theorem set_set_none (ρ : Env) (i : Nat) (d : Option D) : (ρ.set i d).set i none = ρ.set i none := by rw [List.set_set]
theorem sl_put {σ : St} {ρ : Env} {i : Nat} {d : D} {v : V} (hi : i < ρ.length) (k : σ[i]? = some (some v)) : (sl σ (ρ.set i (some d))).Perm ((v, d) :: sl σ (ρ.set i none)) := by
  have q := sl_get (ρ := ρ.set i (some d)) (List.getElem?_set_self hi) k
  rw [set_set_none] at q
  exact q
theorem sl_none : ∀ {σ : St} {ρ : Env} {i : Nat} {w : Option V}, sl (σ.set i w) (ρ.set i none) = sl σ (ρ.set i none)
  | [], _, _, _ => rfl
  | s :: σ, [], i, w => by
    show sl ((s :: σ).set i w) [] = sl (s :: σ) []
    rw [sl_nil, sl_nil]
  | s :: σ, r :: ρ, 0, w => by
    show sl (w :: σ) (none :: ρ) = sl (s :: σ) (none :: ρ)
    cases w <;> cases s <;> rfl
  | s :: σ, r :: ρ, i + 1, w => by
    have ih := sl_none (σ := σ) (ρ := ρ) (i := i) (w := w)
    show sl (s :: σ.set i w) (r :: ρ.set i none) = sl (s :: σ) (r :: ρ.set i none)
    cases s with
    | none => exact ih
    | some u =>
      cases r with
      | none => exact ih
      | some e =>
        show (u, e) :: sl (σ.set i w) (ρ.set i none) = (u, e) :: sl σ (ρ.set i none)
        rw [ih]
theorem sl_sub : ∀ {σ : St} {ρ : Env} {i : Nat}, (sl σ (ρ.set i none)).Sublist (sl σ ρ)
  | [], _, _ => .refl _
  | s :: σ, [], i => .refl _
  | s :: σ, r :: ρ, 0 => by
    cases s with
    | none => cases r <;> exact .refl _
    | some u =>
      cases r with
      | none => exact .refl _
      | some e => exact List.sublist_cons_self (u, e) (sl σ ρ)
  | s :: σ, r :: ρ, i + 1 => by
    have ih := sl_sub (σ := σ) (ρ := ρ) (i := i)
    cases s with
    | none => cases r <;> exact ih
    | some u =>
      cases r with
      | none => exact ih
      | some e => exact ih.cons_cons (u, e)
theorem sl_store {σ : St} {ρ : Env} {i : Nat} {d : D} {v : V} (hi : i < ρ.length) (l : σ.length = ρ.length) : (sl (σ.set i (some v)) (ρ.set i (some d))).Perm ((v, d) :: sl σ (ρ.set i none)) := by
  have q := sl_put (σ := σ.set i (some v)) (d := d) hi (List.getElem?_set_self (by omega))
  rw [sl_none] at q
  exact q
theorem Fit.put {c : Cn} {σ : St} {ρ : Env} {i : Nat} {d : Option D} {v : V} (f : Fit c σ ρ) (k : σ[i]? = some (some v)) (hd : d ≠ some .exn) : Fit c σ (ρ.set i d) := by
  refine ⟨by rw [List.length_set]; exact f.len, fun j e h => ?_, fun j h => ?_⟩
  · by_cases q : i = j
    · subst q; exact ⟨v, k⟩
    · rw [List.getElem?_set_ne q] at h
      exact f.has j e h
  · by_cases q : i = j
    · subst q
      by_cases hi : i < ρ.length
      · rw [List.getElem?_set_self hi] at h
        exact absurd (Option.some.inj h) hd
      · rw [List.getElem?_eq_none (by rw [List.length_set]; omega)] at h; cases h
    · rw [List.getElem?_set_ne q] at h
      exact f.exn j h
theorem Fit.none {c : Cn} {σ : St} {ρ : Env} {i : Nat} (f : Fit c σ ρ) : Fit c σ (ρ.set i Option.none) := by
  have key : ∀ (j : Nat) (e : D), (ρ.set i Option.none)[j]? = some (some e) → ρ[j]? = some (some e) := fun j e h => by
    by_cases q : i = j
    · subst q
      by_cases hi : i < ρ.length
      · rw [List.getElem?_set_self hi] at h; cases h
      · rw [List.getElem?_eq_none (by rw [List.length_set]; omega)] at h; cases h
    · rw [List.getElem?_set_ne q] at h
      exact h
  exact ⟨by rw [List.length_set]; exact f.len, fun j e h => f.has j e (key j e h), fun j h => f.exn j (key j _ h)⟩
/-- the same thing, shared -/
theorem Fit.froz {c : Cn} {σ : St} {ρ : Env} {i : Nat} {d : D} (f : Fit c σ ρ) (e : ρ[i]? = some (some d)) : Fit c σ (ρ.set i (some (fz d))) := by
  have hi : i < ρ.length := (List.getElem?_eq_some_iff.mp e).1
  refine ⟨by rw [List.length_set]; exact f.len, fun j e' h => ?_, fun j h => ?_⟩
  · by_cases q : i = j
    · subst q; exact f.has i d e
    · rw [List.getElem?_set_ne q] at h
      exact f.has j e' h
  · by_cases q : i = j
    · subst q
      rw [List.getElem?_set_self hi] at h
      have e2 : fz d = .exn := Option.some.inj (Option.some.inj h)
      have e3 : isx d = true := by rw [← isx_fz, e2]; rfl
      exact f.exn i (by rw [e, isx_eq e3])
    · rw [List.getElem?_set_ne q] at h
      exact f.exn j h
theorem Fit.store {c : Cn} {σ : St} {ρ : Env} {i : Nat} {d : Option D} {v : V} (f : Fit c σ ρ) (hi : i < ρ.length) (hd : d ≠ some .exn) : Fit c (σ.set i (some v)) (ρ.set i d) := by
  refine ⟨by rw [List.length_set, List.length_set]; exact f.len, fun j e h => ?_, fun j h => ?_⟩
  · by_cases q : i = j
    · subst q
      exact ⟨v, List.getElem?_set_self (by rw [f.len]; exact hi)⟩
    · rw [List.getElem?_set_ne q] at h ⊢
      exact f.has j e h
  · by_cases q : i = j
    · subst q
      rw [List.getElem?_set_self hi] at h
      exact absurd (Option.some.inj h) hd
    · rw [List.getElem?_set_ne q] at h ⊢
      exact f.exn j h

/-! ### what is wanted behind -/
/-- an exception of ours: its class, its own dict -/
def ExnAt (c : Cn) (H : Hp) (x : Exn) (cls : Value) (dd : Option Addr) (L : List (V × D)) : Prop :=
  ∃ C d fvs, cls = .ref C ∧ c.cls x.cls = some C ∧ dd = some d ∧ H d = some (.xd (x.fs.zip fvs)) ∧ fvs.length = x.xs.length ∧ x.fs.length = x.xs.length ∧ Good c H [] (fvs.zip x.xs ++ L)
theorem ExnAt.sub {c : Cn} {H : Hp} {x : Exn} {cls : Value} {dd : Option Addr} {L L' : List (V × D)} (h : ExnAt c H x cls dd L) (s : L'.Sublist L) : ExnAt c H x cls dd L' := by
  obtain ⟨C, d, fvs, e1, e2, e3, e4, e5, e6, g⟩ := h
  exact ⟨C, d, fvs, e1, e2, e3, e4, e5, e6, g.sub (List.Sublist.append (.refl _) s)⟩
abbrev XW := L2.St → XK
def XPost (c : Cn) (EX : XW) (T : List (V × D)) (σ : St) (x : Exn) (ρ : Env) : Prop :=
  ∀ cls dd H, Fit c σ ρ → ExnAt c H x cls dd (T ++ sl σ ρ) → EX σ cls dd H
theorem XPost.more {c : Cn} {EX : XW} {T : List (V × D)} {σ : St} {x : Exn} {ρ : Env} {p : V × D} (h : XPost c EX T σ x ρ) : XPost c EX (p :: T) σ x ρ :=
  fun cls dd H f a => h cls dd H f (a.sub (List.sublist_cons_self _ _))
theorem XPost.sub {c : Cn} {EX : XW} {T T' : List (V × D)} {σ : St} {x : Exn} {ρ : Env} (h : XPost c EX T σ x ρ) (s : T.Sublist T') : XPost c EX T' σ x ρ :=
  fun cls dd H f a => h cls dd H f (a.sub (List.Sublist.append s (.refl _)))
/-- an expression's reading keeps to f -/
def TOk (c : Cn) (EX : XW) (t : TE) (f : M D) : Prop := ∀ (H : Hp) (σ : St) (ρ : Env) (T : List (V × D)) (Q : VK), Fit c σ ρ → Good c H [] (T ++ sl σ ρ) →
  OPost (fun d ρ' => ∀ v H', Fit c σ ρ' → Good c H' [] ((v, d) :: (T ++ sl σ ρ')) → Q v H') (XPost c EX T σ) (f ρ) → t σ H Q
/-- a test's -/
def TtOk (c : Cn) (EX : XW) (t : TT) (f : M Bool) : Prop := ∀ (H : Hp) (σ : St) (ρ : Env) (T : List (V × D)) (Q : Bool → Hp → Prop), Fit c σ ρ → Good c H [] (T ++ sl σ ρ) →
  OPost (fun b ρ' => ∀ H', Fit c σ ρ' → Good c H' [] (T ++ sl σ ρ') → Q b H') (XPost c EX T σ) (f ρ) → t σ H Q

section
variable {c : Cn} {EX : XW}
/-! ### names and constants -/
theorem TOk.cI {i : Int} : TOk c EX (tC (.int i)) (pure (.int i)) := fun H σ ρ T Q f g h => h _ H f (g.addI i)
theorem TOk.cS {i : Str} : TOk c EX (tC (.str i)) (pure (.str i)) := fun H σ ρ T Q f g h => h _ H f (g.addS i)
theorem TOk.cB {i : Bool} : TOk c EX (tC (.bl i)) (pure (.bl i)) := fun H σ ρ T Q f g h => h _ H f (g.addB i)
theorem TOk.cN : TOk c EX (tC .non) (pure .non) := fun H σ ρ T Q f g h => h _ H f g.addN
theorem TOk.cV {v : V} : TOk c EX (tC v) (pure (.val v)) := fun H σ ρ T Q f g h => h _ H f (g.addV v)
/-- the good of a slot -/
theorem slot_out {c : Cn} {H : Hp} {R : List Addr} {T : List (V × D)} {σ : St} {ρ : Env} {i : Nat} {d : D} {v : V} (g : Good c H R (T ++ sl σ ρ)) (h : ρ[i]? = some (some d)) (k : σ[i]? = some (some v)) : Good c H R ((v, d) :: (T ++ sl σ (ρ.set i none))) :=
  (g.perm (List.Perm.append_left T (sl_get h k))).perm List.perm_middle
theorem slot_in {c : Cn} {H : Hp} {R : List Addr} {T : List (V × D)} {σ : St} {ρ : Env} {i : Nat} {d : D} {v : V} (g : Good c H R ((v, d) :: (T ++ sl σ (ρ.set i none)))) (hi : i < ρ.length) (k : σ[i]? = some (some v)) : Good c H R (T ++ sl σ (ρ.set i (some d))) :=
  (g.perm List.perm_middle.symm).perm (List.Perm.append_left T (sl_put hi k).symm)
theorem ltE {α : Type} {l : List α} {i : Nat} {a : α} (h : l[i]? = some a) : i < l.length := (List.getElem?_eq_some_iff.mp h).1
theorem TOk.rd {i : Nat} : TOk c EX (tVar i) (rdv i) := fun H σ ρ T Q f g h => by
  unfold rdv at h
  obtain ⟨d, e, h⟩ := peek_post.mp (bind_post.mp h)
  have h := bind_post.mp h
  rw [setv_post] at h
  obtain ⟨v, k⟩ := f.has i d e
  refine ⟨v, k, h v H (f.froz e) ?_⟩
  have g1 := (slot_out g e k).dup
  exact slot_in (T := (v, fz d) :: T) (g1.perm (.refl _)) (ltE e) k
theorem TOk.mv {i : Nat} : TOk c EX (tVar i) (mvv i) := fun H σ ρ T Q f g h => by
  unfold mvv at h
  obtain ⟨d, e, h⟩ := peek_post.mp (bind_post.mp h)
  have h := bind_post.mp h
  rw [setv_post] at h
  obtain ⟨v, k⟩ := f.has i d e
  exact ⟨v, k, h v H f.none (slot_out g e k)⟩

/-! ### operands: a piece that is reckoned, or a name that is looked at and stays -/
inductive Opn where
  | tmp (f : M D)
  | slot (i : Nat)
def OpnOk (c : Cn) (EX : XW) (t : TE) : Opn → Prop
  | .tmp f => TOk c EX t f
  | .slot i => t = tVar i
theorem opS (i : Nat) : OpnOk c EX (tVar i) (.slot i) := rfl
theorem opT {t : TE} {f : M D} (h : TOk c EX t f) : OpnOk c EX t (.tmp f) := h
/-- by values: one thing in, a thing out, the first one as it is left -/
def G1 (c : Cn) (r : V → Hp → VK → Prop) (g : D → Option (D × D)) : Prop := ∀ (H : Hp) (x : V) (a : D) (T : List (V × D)) (Q : VK) (d a' : D), g a = some (d, a') → Good c H [] ((x, a) :: T) →
  (∀ v H', Good c H' [] ((v, d) :: (x, a') :: T) → Q v H') → r x H Q
def G2 (c : Cn) (r : R2) (g : D → D → Option (D × D × D)) : Prop := ∀ (H : Hp) (x y : V) (a b : D) (T : List (V × D)) (Q : VK) (d a' b' : D), g a b = some (d, a', b') → Good c H [] ((y, b) :: (x, a) :: T) →
  (∀ v H', Good c H' [] ((v, d) :: (y, b') :: (x, a') :: T) → Q v H') → r x y H Q
def ev1 (o : Opn) (g : D → Option (D × D)) : M D := match o with
  | .tmp f => do
    let a ← f
    let p ← optM (g a)
    pure p.1
  | .slot i => do
    let a ← peek i
    let p ← optM (g a)
    setq i p.2
    pure p.1
def ev2 (o1 o2 : Opn) (g : D → D → Option (D × D × D)) : M D := match o1, o2 with
  | .tmp f, .tmp h => do
    let a ← f
    let b ← h
    let p ← optM (g a b)
    pure p.1
  | .slot i, .tmp h => do
    let _ ← peek i
    let b ← h
    let a ← peek i
    let p ← optM (g a b)
    setq i p.2.1
    pure p.1
  | .tmp f, .slot j => do
    let a ← f
    let b ← peek j
    let p ← optM (g a b)
    setq j p.2.2
    pure p.1
  | .slot i, .slot j => do
    let a ← peek i
    let b ← peek j
    if i = j then badM else do
      let p ← optM (g a b)
      setq i p.2.1
      setq j p.2.2
      pure p.1
theorem TOk.op1 {t : TE} {r : V → Hp → VK → Prop} {o : Opn} {g : D → Option (D × D)} (h1 : OpnOk c EX t o) (hr : G1 c r g) : TOk c EX (fun σ H Q => t σ H fun x H1 => r x H1 Q) (ev1 o g) := fun H σ ρ T Q f gd h => by
  cases o with
  | tmp m =>
    refine h1 H σ ρ T _ f gd ((bind_post.mp h).imp (fun a ρ1 h2 v H1 f1 g1 => ?_) fun _ _ q => q)
    obtain ⟨p, e, h3⟩ := opt_post.mp (bind_post.mp h2)
    exact hr H1 v a _ Q p.1 p.2 e g1 fun u H2 g2 => h3 u H2 f1 g2.drop1
  | slot i =>
    subst h1
    obtain ⟨a, e, h2⟩ := peek_post.mp (bind_post.mp h)
    obtain ⟨p, e2, h3⟩ := opt_post.mp (bind_post.mp h2)
    have ⟨hd, h4⟩ := setq_post (bind_post.mp h3)
    obtain ⟨v, k⟩ := f.has i a e
    exact ⟨v, k, hr H v a _ Q p.1 p.2 e2 (slot_out gd e k) fun u H2 g2 => h4 u H2 (f.put k hd) (slot_in (T := (u, p.1) :: T) g2.swap (ltE e) k)⟩
theorem TOk.op2 {ta tb : TE} {r : R2} {o1 o2 : Opn} {g : D → D → Option (D × D × D)} (h1 : OpnOk c EX ta o1) (h2 : OpnOk c EX tb o2) (hr : G2 c r g) : TOk c EX (tOp r ta tb) (ev2 o1 o2 g) := fun H σ ρ T Q f gd h => by
  cases o1 with
  | tmp m =>
    cases o2 with
    | tmp m2 =>
      refine h1 H σ ρ T _ f gd ((bind_post.mp h).imp (fun a ρ1 h3 v H1 f1 g1 => ?_) fun _ _ q => q)
      refine h2 H1 σ ρ1 ((v, a) :: T) _ f1 g1 ((bind_post.mp h3).imp (fun b ρ2 h4 u H2 f2 g2 => ?_) fun _ _ q => q.more)
      obtain ⟨p, e, h5⟩ := opt_post.mp (bind_post.mp h4)
      exact hr H2 v u a b _ Q p.1 p.2.1 p.2.2 e g2 fun z H3 g3 => h5 z H3 f2 g3.drop1.drop1
    | slot j =>
      refine h1 H σ ρ T _ f gd ((bind_post.mp h).imp (fun a ρ1 h3 v H1 f1 g1 => ?_) fun _ _ q => q)
      cases h2
      obtain ⟨b, e, h4⟩ := peek_post.mp (bind_post.mp h3)
      obtain ⟨p, e2, h5⟩ := opt_post.mp (bind_post.mp h4)
      have ⟨hd, h6⟩ := setq_post (bind_post.mp h5)
      obtain ⟨u, k⟩ := f1.has j b e
      exact ⟨u, k, hr H1 v u a b _ Q p.1 p.2.1 p.2.2 e2 (slot_out (T := (v, a) :: T) g1 e k) fun z H3 g3 => h6 z H3 (f1.put k hd) (slot_in (T := (z, p.1) :: T) (g3.sub (((List.sublist_cons_self _ _).cons_cons _).cons_cons _)).swap (ltE e) k)⟩
  | slot i =>
    cases h1
    cases o2 with
    | tmp m2 =>
      obtain ⟨a0, e0, h3⟩ := peek_post.mp (bind_post.mp h)
      obtain ⟨v, k⟩ := f.has i a0 e0
      refine ⟨v, k, ?_⟩
      refine h2 H σ ρ T _ f gd ((bind_post.mp h3).imp (fun b ρ2 h4 u H2 f2 g2 => ?_) fun _ _ q => q)
      obtain ⟨a, e, h5⟩ := peek_post.mp (bind_post.mp h4)
      obtain ⟨p, e2, h6⟩ := opt_post.mp (bind_post.mp h5)
      have ⟨hd, h7⟩ := setq_post (bind_post.mp h6)
      exact hr H2 v u a b _ Q p.1 p.2.1 p.2.2 e2 (slot_out (T := (u, b) :: T) g2 e k).swap fun z H3 g3 => h7 z H3 (f2.put k hd) (slot_in (T := (z, p.1) :: T) g3.drop1.swap (ltE e) k)
    | slot j =>
      cases h2
      obtain ⟨a, e, h3⟩ := peek_post.mp (bind_post.mp h)
      obtain ⟨b, e2, h4⟩ := peek_post.mp (bind_post.mp h3)
      by_cases q : i = j
      · rw [if_pos q] at h4
        exact h4.elim
      · rw [if_neg q] at h4
        obtain ⟨p, e3, h5⟩ := opt_post.mp (bind_post.mp h4)
        have ⟨hd, h6⟩ := setq_post (bind_post.mp h5)
        have ⟨hd2, h7⟩ := setq_post (bind_post.mp h6)
        obtain ⟨v, k⟩ := f.has i a e
        obtain ⟨u, k2⟩ := f.has j b e2
        refine ⟨v, k, u, k2, ?_⟩
        have g1 := slot_out gd e k
        have e2' : (ρ.set i none)[j]? = some (some b) := by rw [List.getElem?_set_ne q]; exact e2
        have g2 := slot_out (T := (v, a) :: T) g1 e2' k2
        refine hr H v u a b _ Q p.1 p.2.1 p.2.2 e3 g2 fun z H3 g3 => h7 z H3 ((f.put k hd).put k2 hd2) ?_
        have g4 : Good c H3 [] ((u, p.2.2) :: ((v, p.2.1) :: (z, p.1) :: T ++ sl σ ((ρ.set i none).set j none))) := by
          refine g3.perm ?_
          show ((z, p.1) :: (u, p.2.2) :: (v, p.2.1) :: (T ++ sl σ ((ρ.set i none).set j none))).Perm ((u, p.2.2) :: (v, p.2.1) :: (z, p.1) :: (T ++ sl σ ((ρ.set i none).set j none)))
          exact (List.Perm.swap _ _ _).trans (List.Perm.cons _ (List.Perm.swap _ _ _))
        have g5 := slot_in g4 (by rw [List.length_set]; exact ltE e2) k2
        have g6 : Good c H3 [] ((v, p.2.1) :: ((z, p.1) :: T ++ sl σ ((ρ.set j (some p.2.2)).set i none))) := by
          rw [List.set_comm _ _ (Ne.symm q)]
          exact g5
        have g7 := slot_in g6 (by rw [List.length_set]; exact ltE e) k
        rw [List.set_comm _ _ q]
        exact g7
end
end Mir
end
section
set_option Elab.async false
set_option linter.all false
set_option maxRecDepth 100000
set_option maxHeartbeats 2000000
/-! Mir2: operators, built-ins, methods as functions of data. -/
namespace Mir
open PySem PySem.Spec PyProof.Rows L2

section
variable {c : Cn} {H : Hp} {R : List Addr} {L T : List (V × D)} {v x y : V} {d a b : D}
theorem upd_self' {H : Hp} {a : Addr} {o : HO} (h : H a = some o) : upd H a o = H := by
  funext z
  unfold upd
  by_cases e : z = a
  · subst e; rw [if_pos rfl, h]
  · rw [if_neg e]
/-- an own list is put together again -/
theorem Good.shutL {ds : List D} {vs : List V} {p : Addr} (g : Good c H (p :: R) (vs.zip ds ++ L)) (hl : vs.length = ds.length) (h : H p = some (.lst vs)) : Good c H R ((.ref p, .lst true ds) :: L) := by
  have q := g.closeL hl (.inr (by rw [h]; trivial))
  rw [upd_self' h] at q
  exact q
mutual
theorem Rep.shared {Z : Addr → Prop} : ∀ (d : D) (v : V), Rep c Z H d v [] → fz d = d
  | .non, _, _ => rfl
  | .bl _, _, _ => rfl
  | .int _, _, _ => rfl
  | .str _, _, _ => rfl
  | .val _, _, _ => rfl
  | .seq _, _, _ => rfl
  | .lst o xs, v, h => by
    simp only [Rep] at h
    obtain ⟨a, vs, f, e, r, q⟩ := h
    cases o with
    | true =>
      simp only [if_true] at q
      exact nomatch q.2
    | false =>
      simp only [Bool.false_eq_true, if_false] at q
      obtain ⟨q1, q2, q3, q4⟩ := q
      subst q3
      simp only [fz, RepL.shared xs vs r]
  | .tup xs, v, h => by
    simp only [Rep] at h
    obtain ⟨a, vs, e, r, q⟩ := h
    simp only [fz, RepL.shared xs vs r]
  | .dic o ks xs, v, h => by
    simp only [Rep] at h
    obtain ⟨a, vs, f, e, r, l, q⟩ := h
    cases o with
    | true =>
      simp only [if_true] at q
      exact nomatch q.2
    | false =>
      simp only [Bool.false_eq_true, if_false] at q
      obtain ⟨q1, q2, q3, q4⟩ := q
      subst q3
      simp only [fz, RepL.shared xs vs r]
  | .exn, _, _ => rfl
  | .ins o C fs xs, v, h => by
    simp only [Rep] at h
    obtain ⟨a, vs, f, e, r, l, A, dx, ec, q1, q⟩ := h
    cases o with
    | true =>
      simp only [if_true] at q
      exact nomatch q
    | false =>
      simp only [Bool.false_eq_true, if_false] at q
      obtain ⟨q2, q3, q4⟩ := q
      subst q3
      simp only [fz, RepL.shared xs vs r]
theorem RepL.shared {Z : Addr → Prop} : ∀ (ds : List D) (vs : List V), RepL c Z H ds vs [] → fzL ds = ds
  | [], _, _ => rfl
  | d :: ds, vs, h => by
    simp only [RepL] at h
    obtain ⟨v, r, f, g, e, h1, h2, e2⟩ := h
    obtain ⟨rfl, rfl⟩ := List.append_eq_nil_iff.mp e2.symm
    simp only [fzL, Rep.shared d v h1, RepL.shared ds r h2]
end
theorem Good.shared {ds : List D} (g : Good c H R ((v, .lst false ds) :: L)) : fzL ds = ds := by
  obtain ⟨Z, f, h⟩ := g.head
  simp only [Rep, Bool.false_eq_true, if_false] at h
  obtain ⟨a, vs, f', ev, r, q1, q2, q3, q4⟩ := h
  subst q3
  exact RepL.shared ds vs r
theorem fzL_at {ds : List D} {k : Nat} {d : D} (h : ds[k]? = some d) : (fzL ds)[k]? = some (fz d) := by
  rw [fzL_map, List.getElem?_map, h]
  rfl
/-- a thing of a list -/
theorem Good.ixL {o : Bool} {ds : List D} {k : Nat} (g : Good c H R ((v, .lst o ds) :: L)) (h : ds[k]? = some d) :
    ∃ p vs z, v = .ref p ∧ Rd H p (.lst vs) ∧ vs.length = ds.length ∧ vs[k]? = some z ∧ Good c H R ((z, fz d) :: (v, .lst o (ds.set k (fz d))) :: L) := by
  cases o with
  | true =>
    obtain ⟨p, vs, e, hp, hl, g1⟩ := g.openL
    obtain ⟨z, hz⟩ := get_of_len hl h
    refine ⟨p, vs, z, e, .of hp, hl, hz, ?_⟩
    have g2 := (g1.at hz h).perm (List.perm_middle (a := (z, fz d)) (l₁ := vs.zip (ds.set k (fz d))) (l₂ := L)).symm
    have g3 := g2.shutL (by rw [List.length_set]; exact hl) hp
    rw [e]
    exact g3.swap
  | false =>
    have sh := g.shared
    have ed : fz d = d := by
      have q := fzL_at h
      rw [sh, h] at q
      exact (Option.some.inj q).symm
    have g0 := g.dup
    simp only [fz, sh] at g0
    obtain ⟨p, vs, e, hp, hl, g1⟩ := g0.readL
    obtain ⟨z, hz⟩ := get_of_len hl h
    refine ⟨p, vs, z, e, hp, hl, hz, ?_⟩
    have es : ds.set k (fz d) = ds := by
      rw [ed]
      refine List.ext_getElem? fun i => ?_
      by_cases q : k = i
      · subst q; rw [List.getElem?_set_self (ltE h), h]
      · rw [List.getElem?_set_ne q]
    have g2 := g1.at hz h
    rw [es] at g2 ⊢
    refine g2.sub (List.Sublist.cons_cons _ ?_)
    exact (List.sublist_cons_self _ _).trans (List.sublist_append_right _ _)
/-- a thing of a tuple -/
theorem Good.ixT {ds : List D} {k : Nat} (g : Good c H R ((v, .tup ds) :: L)) (h : ds[k]? = some d) :
    ∃ p vs z, v = .ref p ∧ SqT c.K H p vs ∧ vs.length = ds.length ∧ vs[k]? = some z ∧ Good c H R ((z, fz d) :: (v, .tup (ds.set k (fz d))) :: L) := by
  obtain ⟨p, vs, e, hp, hl, g1⟩ := g.openT
  obtain ⟨z, hz⟩ := get_of_len hl h
  refine ⟨p, vs, z, e, hp, hl, hz, ?_⟩
  have g2 := (g1.at hz h).perm (List.perm_middle (a := (z, fz d)) (l₁ := vs.zip (ds.set k (fz d))) (l₂ := L)).symm
  have g3 := g2.closeT (by rw [List.length_set]; exact hl) hp
  rw [e]
  exact g3.swap
/-- a list is there to be read -/
theorem Good.lst {o : Bool} {ds : List D} (g : Good c H R ((v, .lst o ds) :: L)) : ∃ Z p vs f, v = .ref p ∧ Rd H p (.lst vs) ∧ vs.length = ds.length ∧ RepL c Z H ds vs f := by
  obtain ⟨Z, f, h⟩ := g.head
  simp only [Rep] at h
  obtain ⟨a, vs, f', e, r, q⟩ := h
  cases o with
  | true =>
    simp only [if_true] at q
    exact ⟨Z, a, vs, f', e, .of q.1, RepL.len _ _ _ r, r⟩
  | false =>
    simp only [Bool.false_eq_true, if_false] at q
    exact ⟨Z, a, vs, f', e, q.1, RepL.len _ _ _ r, r⟩
theorem Good.tup {ds : List D} (g : Good c H R ((v, .tup ds) :: L)) : ∃ Z p vs f, v = .ref p ∧ SqT c.K H p vs ∧ vs.length = ds.length ∧ RepL c Z H ds vs f := by
  obtain ⟨Z, f, h⟩ := g.head
  simp only [Rep] at h
  obtain ⟨a, vs, e, r, q⟩ := h
  exact ⟨Z, a, vs, _, e, q, RepL.len _ _ _ r, r⟩
theorem Rd.sqL {K : PySem.W.Frag} {p : Addr} {vs : List V} (h : Rd H p (.lst vs)) : SqL K H p vs := .inl h
end

/-! ### whole numbers -/
def iop (C : Int → Int → Bool) (g : Int → Int → Int) : D → D → Option (D × D × D)
  | .int i, .int j => if C i j = true then some (.int (g i j), .int i, .int j) else none
  | _, _ => none
def icmp (p : Int → Int → Bool) : D → D → Option (D × D × D)
  | .int i, .int j => some (.bl (p i j), .int i, .int j)
  | _, _ => none
theorem iop_some {C : Int → Int → Bool} {g : Int → Int → Int} {a b : D} {p : D × D × D} (h : iop C g a b = some p) : ∃ i j, a = .int i ∧ b = .int j ∧ C i j = true ∧ p = (.int (g i j), .int i, .int j) := by
  unfold iop at h
  split at h
  · split at h
    · rename_i q
      exact ⟨_, _, rfl, rfl, q, (Option.some.inj h).symm⟩
    · cases h
  · cases h
theorem icmp_some {q : Int → Int → Bool} {a b : D} {p : D × D × D} (h : icmp q a b = some p) : ∃ i j, a = .int i ∧ b = .int j ∧ p = (.bl (q i j), .int i, .int j) := by
  unfold icmp at h
  split at h
  · exact ⟨_, _, rfl, rfl, (Option.some.inj h).symm⟩
  · cases h
section
variable {c : Cn}
theorem G2.int {C : Int → Int → Prop} {B : Int → Int → Bool} {g : Int → Int → Int} (h : ∀ i j, B i j = true → C i j) : G2 c (rI C fun i j => .int (g i j)) (iop B g) := by
  intro H x y a b T Q d a' b' e gd k
  obtain ⟨i, j, rfl, rfl, hc, ep⟩ := iop_some e
  cases ep
  exact ⟨i, j, gd.tail.isI, gd.isI, h i j hc, k _ H (gd.addI _)⟩
theorem G2.int0 {g : Int → Int → Int} : G2 c (rI0 fun i j => .int (g i j)) (iop (fun _ _ => true) g) := by
  intro H x y a b T Q d a' b' e gd k
  obtain ⟨i, j, rfl, rfl, hc, ep⟩ := iop_some e
  cases ep
  exact ⟨i, j, gd.tail.isI, gd.isI, k _ H (gd.addI _)⟩
theorem G2.cmp {g : Int → Int → Bool} : G2 c (rI0 fun i j => .bl (g i j)) (icmp g) := by
  intro H x y a b T Q d a' b' e gd k
  obtain ⟨i, j, rfl, rfl, ep⟩ := icmp_some e
  cases ep
  exact ⟨i, j, gd.tail.isI, gd.isI, k _ H (gd.addB _)⟩
/-- one rule or another -/
theorem G2.or {r r' : R2} {g g' : D → D → Option (D × D × D)} (h : G2 c r g) (h' : G2 c r' g') : G2 c (fun x y H Q => r x y H Q ∨ r' x y H Q) (fun a b => match g a b with | some p => some p | none => g' a b) := by
  intro H x y a b T Q d a' b' e gd k
  cases q : g a b with
  | some p =>
    simp only [q] at e
    cases e
    exact .inl (h H x y a b T Q d a' b' q gd k)
  | none =>
    simp only [q] at e
    exact .inr (h' H x y a b T Q d a' b' e gd k)
theorem G1.or {r r' : V → Hp → VK → Prop} {g g' : D → Option (D × D)} (h : G1 c r g) (h' : G1 c r' g') : G1 c (fun x H Q => r x H Q ∨ r' x H Q) (fun a => match g a with | some p => some p | none => g' a) := by
  intro H x a T Q d a' e gd k
  cases q : g a with
  | some p =>
    simp only [q] at e
    cases e
    exact .inl (h H x a T Q d a' q gd k)
  | none =>
    simp only [q] at e
    exact .inr (h' H x a T Q d a' e gd k)
end
def mulB (i j : Int) : Bool := decide (-(2 ^ 64) < i ∧ i < 2 ^ 64) || decide (-(2 ^ 64) < j ∧ j < 2 ^ 64) || decide (i.natAbs.log2 + j.natAbs.log2 < 1000000)
def divB (_ j : Int) : Bool := decide (0 < j) && decide (j.natAbs.log2 < 9000)
def modB (_ j : Int) : Bool := decide (0 < j)
def powB (i j : Int) : Bool := decide (0 ≤ j) && decide (j ≤ 1000000) && decide (i.natAbs < 2 ^ 64)
def shrB (_ j : Int) : Bool := decide (0 ≤ j)
def oAdd := iop (fun _ _ => true) fun i j => i + j
def oSub := iop (fun _ _ => true) fun i j => i - j
def oMul := iop mulB fun i j => i * j
def oDiv := iop divB fun i j => i / j
def oMod := iop modB fun i j => i % j
def oPow := iop powB fun i j => i ^ j.toNat
def oShl := iop powB fun i j => i * 2 ^ j.toNat
def oShr := iop shrB fun i j => i / 2 ^ j.toNat
def oAnd := iop (fun _ _ => true) Builtin.bitAnd
def oOr := iop (fun _ _ => true) Builtin.bitOr
def oXor := iop (fun _ _ => true) Builtin.bitXor
def oLt := icmp fun i j => decide (i < j)
def oLe := icmp fun i j => decide (i ≤ j)
def oGt := icmp fun i j => decide (j < i)
def oGe := icmp fun i j => decide (j ≤ i)
section
variable {X : Cx} {c : Cn}
theorem op_mulA : OpR X (binaryOp .Mult) (rI (fun i j => mulB i j = true) fun i j => .int (i * j)) := opI fun i j _ _ _ _ _ hc q => mul_int q (by
  unfold mulB at hc
  simp only [Bool.or_eq_true, decide_eq_true_eq] at hc
  rcases hc with (h | h) | h
  · exact CMul.ok (.inl h)
  · exact CMul.ok (.inr h)
  · exact CMulW.ok h)
theorem g_add : G2 c (rI0 fun i j => .int (i + j)) oAdd := G2.int0
theorem g_sub : G2 c (rI0 fun i j => .int (i - j)) oSub := G2.int0
theorem g_mul : G2 c (rI (fun i j => mulB i j = true) fun i j => .int (i * j)) oMul := G2.int fun _ _ h => h
theorem g_div : G2 c (rI CDivW fun i j => .int (i / j)) oDiv := G2.int fun i j h => by
  unfold divB at h
  simp only [Bool.and_eq_true, decide_eq_true_eq] at h
  exact h
theorem g_mod : G2 c (rI (fun _ j => 0 < j) fun i j => .int (i % j)) oMod := G2.int fun i j h => of_decide_eq_true h
theorem g_pow : G2 c (rI CPow fun i j => .int (i ^ j.toNat)) oPow := G2.int fun i j h => by
  unfold powB at h
  simp only [Bool.and_eq_true, decide_eq_true_eq] at h
  exact ⟨h.1.1, h.1.2, h.2⟩
theorem g_shl : G2 c (rI CPow fun i j => .int (i * 2 ^ j.toNat)) oShl := G2.int fun i j h => by
  unfold powB at h
  simp only [Bool.and_eq_true, decide_eq_true_eq] at h
  exact ⟨h.1.1, h.1.2, h.2⟩
theorem g_shr : G2 c (rI (fun _ j => 0 ≤ j) fun i j => .int (i / 2 ^ j.toNat)) oShr := G2.int fun i j h => of_decide_eq_true h
theorem g_and : G2 c (rI0 fun i j => .int (Builtin.bitAnd i j)) oAnd := G2.int0
theorem g_or : G2 c (rI0 fun i j => .int (Builtin.bitOr i j)) oOr := G2.int0
theorem g_xor : G2 c (rI0 fun i j => .int (Builtin.bitXor i j)) oXor := G2.int0
theorem g_lt : G2 c (rI0 fun i j => .bl (decide (i < j))) oLt := G2.cmp
theorem g_le : G2 c (rI0 fun i j => .bl (decide (i ≤ j))) oLe := G2.cmp
theorem g_gt : G2 c (rI0 fun i j => .bl (decide (j < i))) oGt := G2.cmp
theorem g_ge : G2 c (rI0 fun i j => .bl (decide (j ≤ i))) oGe := G2.cmp
end

/-! ### texts, lists put together -/
def oCatS : D → D → Option (D × D × D)
  | .str i, .str j => if i.length + j.length ≤ sizeLine then some (.str (i ++ j), .str i, .str j) else none
  | _, _ => none
/-- the things of both, shared -/
def oCatL : D → D → Option (D × D × D)
  | .lst o xs, .lst u ys => if xs.length + ys.length ≤ sizeLine then some (.lst true (fzL xs ++ fzL ys), .lst o (fzL xs), .lst u (fzL ys)) else none
  | _, _ => none
def rCatS : R2 := fun x y H Q => ∃ i j, x = .str i ∧ y = .str j ∧ i.length + j.length ≤ sizeLine ∧ Q (.str (i ++ j)) H
def rCatR : R2 := fun x y H Q => ∃ l b xs zs, x = .ref l ∧ y = .ref b ∧ Rd H l (.lst xs) ∧ Rd H b (.lst zs) ∧ xs.length + zs.length ≤ sizeLine ∧ ∀ p, H p = none → Q (.ref p) (upd H p (.lst (xs ++ zs)))
section
variable {X : Cx} {c : Cn}
theorem lstR {pins : List (Addr × Obj)} {σ : L2.St} {H : Hp} {s : Shared} {l : Addr} {xs : List V} (I : Inv X pins σ H s) (h : Rd H l (.lst xs)) :
    xs.length ≤ sizeLine ∧ ∃ (its : List Value) (n : Nat), Vals xs its ∧ xs.length = its.length ∧ s.heap.get? l = some { cls := .type "list", data := .seq its.toArray n } := by
  obtain ⟨z, its, n, r, e⟩ := h.ok I.hok
  exact ⟨z, its, n, r, r.length, e⟩
theorem op_catR : OpR X (binaryOp .Add) rCatR := by
  intro pins s σ H x y v u Q I rx ry h
  obtain ⟨l, b, xs, zs, rfl, rfl, hH, hB, hz, q⟩ := h
  cases rx
  cases ry
  obtain ⟨z, its, n, r, hl, e⟩ := lstR I hH
  obtain ⟨z2, its2, n2, r2, hl2, e2⟩ := lstR I hB
  refine PySem.P.add_list e e2 ?_ (by rw [List.size_toArray, List.size_toArray]; omega)
  have ea : its.toArray ++ its2.toArray = (its ++ its2).toArray := by simp
  rw [ea]
  exact ⟨.ref _, _, I.lnew (t' := s.toks) (r.append r2) (by rw [List.length_append]; omega), rfl, q _ I.fresh⟩
theorem g_catS : G2 c rCatS oCatS := by
  intro H x y a b T Q d a' b' e gd k
  unfold oCatS at e
  split at e
  · split at e
    · rename_i i j q
      cases e
      exact ⟨i, j, gd.tail.isS, gd.isS, q, k _ H (gd.addS _)⟩
    · cases e
  · cases e
/-- the things of a list, shared, beside it -/
theorem Good.parts {c : Cn} {H : Hp} {R : List Addr} {L : List (V × D)} {v : V} {o : Bool} {ds : List D} (g : Good c H R ((v, .lst o ds) :: L)) :
    ∃ p vs, v = .ref p ∧ Rd H p (.lst vs) ∧ vs.length = ds.length ∧ Good c H R (vs.zip (fzL ds) ++ (v, .lst o (fzL ds)) :: L) := by
  cases o with
  | true =>
    obtain ⟨p, vs, e, hp, hl, Z, fp, h, nd, nz, zt⟩ := g.openL
    obtain ⟨f, f2, h1, h2, e2⟩ := RepA.split _ _ _ h
    subst e2
    have h1' := RepA.toL _ _ _ hl h1
    have nd' : (f ++ (f2 ++ p :: R)).Nodup := by rw [← List.append_assoc]; exact nd
    have ap := (List.nodup_append.mp nd').2.2
    have r1 : RepL c (fun a => Z a ∨ a ∈ f) H (fzL ds) vs [] := RepL.freeze (fun _ z => .inl z) ds vs f (fun a ha => .inr ha) h1'
    have r2 : RepA c (fun a => Z a ∨ a ∈ f) H L f2 := RepA.mono (fun _ z => .inl z) L f2 ⟨fun _ _ _ r => r, fun _ _ _ _ e => e, fun _ _ => rfl, fun _ _ q => q⟩ h2
    have hl' : vs.length = (fzL ds).length := by rw [fzL_len]; exact hl
    refine ⟨p, vs, e, .of hp, hl, fun a => Z a ∨ a ∈ f, [] ++ (p :: [] ++ f2), RepA.append _ _ _ _ (RepL.all _ _ _ r1) ⟨[p], f2, ?_, r2, rfl⟩, ?_, fun a ha z => ?_, fun a z => ?_, fun p hp => (zt.kp p hp).mono (fun _ z => .inl z) ⟨fun _ _ _ r => r, fun _ _ _ _ e => e, fun _ _ => rfl, fun _ _ q => q⟩⟩
    · simp only [Rep, if_true]
      exact ⟨p, vs, [], e, r1, hp, rfl⟩
    · have q : (f2 ++ p :: R).Perm (p :: (f2 ++ R)) := List.perm_middle
      exact q.nodup (List.nodup_append.mp nd').2.1
    · have q : (f2 ++ p :: R).Perm (p :: (f2 ++ R)) := List.perm_middle
      have ha' : a ∈ f2 ++ p :: R := q.symm.subset ha
      rcases z with z | z
      · exact nz a (by rw [List.append_assoc]; exact List.mem_append_right _ ha') z
      · exact ap a z a ha' rfl
    · rcases z with z | z
      · exact zt.at' a z
      · obtain ⟨o, e, _⟩ := RepL.there ds vs f h1' a z
        exact ⟨o, e⟩
  | false =>
    have sh := g.shared
    have g0 := g.dup
    simp only [fz, sh] at g0
    obtain ⟨p, vs, e, hp, hl, g1⟩ := g0.readL
    rw [sh]
    exact ⟨p, vs, e, hp, hl, g1.sub (List.Sublist.append (.refl _) (List.sublist_cons_self _ _))⟩
theorem zip_append' {vs ws : List V} {ds es : List D} (h : vs.length = ds.length) : (vs ++ ws).zip (ds ++ es) = vs.zip ds ++ ws.zip es := List.zip_append h
theorem g_catL : G2 c rCatR oCatL := by
  intro H x y a b T Q d a' b' e gd k
  unfold oCatL at e
  split at e
  · split at e
    · rename_i o xs u ys q
      cases e
      obtain ⟨p2, vs2, e2, h2, l2, g2⟩ := gd.parts
      have g3 : Good c H [] ((x, .lst o xs) :: (vs2.zip (fzL ys) ++ (y, .lst u (fzL ys)) :: T)) := g2.perm ((List.Perm.append_left _ (.swap _ _ _)).trans List.perm_middle)
      obtain ⟨p1, vs1, e1, h1, l1, g4⟩ := g3.parts
      refine ⟨p1, p2, vs1, vs2, e1, e2, h1, h2, by omega, fun p hp => k (.ref p) _ ?_⟩
      have hl : (vs1 ++ vs2).length = (fzL xs ++ fzL ys).length := by rw [List.length_append, List.length_append, fzL_len, fzL_len]; omega
      have g5 : Good c H [] ((vs1 ++ vs2).zip (fzL xs ++ fzL ys) ++ ((y, .lst u (fzL ys)) :: (x, .lst o (fzL xs)) :: T)) := by
        rw [zip_append' (by rw [fzL_len]; exact l1)]
        refine g4.perm ?_
        rw [List.append_assoc]
        refine List.Perm.append_left _ ?_
        exact (List.perm_middle.symm).trans (List.Perm.append_left _ (.swap _ _ _))
      exact g5.newL hl hp (by simp)
    · cases e
  · cases e
end

/-! ### == of data -/
mutual
def toP : D → Option PyData
  | .non => some .none
  | .bl b => some (.bool b)
  | .int i => some (.int i)
  | .str x => some (.str x)
  | .lst _ xs => (toPL xs).map .list
  | .tup xs => (toPL xs).map .tuple
  | _ => none
def toPL : List D → Option (List PyData)
  | [] => some []
  | d :: ds => match toP d, toPL ds with
    | some p, some ps => some (p :: ps)
    | _, _ => none
end
section
variable {c : Cn} {Z : Addr → Prop} {H : Hp}
mutual
theorem Rep.dp : ∀ (d : D) (v : V) (f : List Addr) (p : PyData), toP d = some p → Rep c Z H d v f → Dp c.K H v p
  | .non, v, f, p, e, h => by
    cases e
    rw [h.1]
    exact .non
  | .bl b, v, f, p, e, h => by
    cases e
    rw [h.1]
    exact .bl b
  | .int i, v, f, p, e, h => by
    cases e
    rw [h.1]
    exact .int i
  | .str x, v, f, p, e, h => by
    cases e
    rw [h.1]
    exact .str x
  | .val _, _, _, _, e, _ => nomatch e
  | .seq _, _, _, _, e, _ => nomatch e
  | .dic _ _ _, _, _, _, e, _ => nomatch e
  | .ins _ _ _ _, _, _, _, e, _ => nomatch e
  | .lst o xs, v, f, p, e, h => by
    simp only [toP] at e
    simp only [Rep] at h
    obtain ⟨a, vs, f', ev, r, q⟩ := h
    cases q2 : toPL xs with
    | none => rw [q2] at e; cases e
    | some ps =>
      rw [q2] at e
      cases e
      rw [ev]
      have hr : Rd H a (.lst vs) := by
        cases o with
        | true =>
          simp only [if_true] at q
          exact .of q.1
        | false =>
          simp only [Bool.false_eq_true, if_false] at q
          exact q.1
      exact .lst (.inl hr) (RepL.dp xs vs f' ps q2 r)
  | .tup xs, v, f, p, e, h => by
    simp only [toP] at e
    simp only [Rep] at h
    obtain ⟨a, vs, ev, r, q⟩ := h
    cases q2 : toPL xs with
    | none => rw [q2] at e; cases e
    | some ps =>
      rw [q2] at e
      cases e
      rw [ev]
      exact .tup q (RepL.dp xs vs f ps q2 r)
theorem RepL.dp : ∀ (ds : List D) (vs : List V) (f : List Addr) (ps : List PyData), toPL ds = some ps → RepL c Z H ds vs f → DpAll c.K H vs ps
  | [], vs, f, ps, e, h => by
    cases e
    have e1 : vs = [] := h.1
    rw [e1]
    exact .nil
  | d :: ds, vs, f, ps, e, h => by
    simp only [RepL] at h
    obtain ⟨v, r, f1, f2, ev, h1, h2, e2⟩ := h
    simp only [toPL] at e
    cases q1 : toP d with
    | none => rw [q1] at e; cases e
    | some p =>
      cases q2 : toPL ds with
      | none => rw [q1, q2] at e; cases e
      | some ps' =>
        rw [q1, q2] at e
        cases e
        rw [ev]
        exact .cons (Rep.dp d v f1 p q1 h1) (RepL.dp ds r f2 ps' q2 h2)
end
end
def deq (a b : D) : Option Bool := match toP a, toP b with
  | some p, some q => if SeqAt.shaped p = true ∧ SeqAt.shaped q = true then some (PyData.eqv p q) else none
  | _, _ => none
def oEq (a b : D) : Option (D × D × D) := (deq a b).map fun k => (.bl k, a, b)
def oNe (a b : D) : Option (D × D × D) := (deq a b).map fun k => (.bl (!k), a, b)
theorem deq_some {a b : D} {k : Bool} (h : deq a b = some k) : ∃ p q, toP a = some p ∧ toP b = some q ∧ SeqAt.shaped p = true ∧ SeqAt.shaped q = true ∧ k = PyData.eqv p q := by
  unfold deq at h
  split at h
  · split at h
    · rename_i p q e1 e2 s
      exact ⟨p, q, e1, e2, s.1, s.2, (Option.some.inj h).symm⟩
    · cases h
  · cases h
section
variable {c : Cn}
theorem g_eq : G2 c (rEqD c.K) oEq := by
  intro H x y a b T Q d a' b' e gd k
  unfold oEq at e
  cases q : deq a b with
  | none => rw [q] at e; cases e
  | some kk =>
    rw [q] at e
    cases e
    obtain ⟨p, r, e1, e2, s1, s2, rfl⟩ := deq_some q
    obtain ⟨Z, f, h⟩ := gd.head
    obtain ⟨Z', f', h'⟩ := gd.tail.head
    exact ⟨p, r, Rep.dp _ _ _ _ e1 h', Rep.dp _ _ _ _ e2 h, s1, s2, k _ H (gd.addB _)⟩
theorem g_ne : G2 c (rNeD c.K) oNe := by
  intro H x y a b T Q d a' b' e gd k
  unfold oNe at e
  cases q : deq a b with
  | none => rw [q] at e; cases e
  | some kk =>
    rw [q] at e
    cases e
    obtain ⟨p, r, e1, e2, s1, s2, rfl⟩ := deq_some q
    obtain ⟨Z, f, h⟩ := gd.head
    obtain ⟨Z', f', h'⟩ := gd.tail.head
    exact ⟨p, r, Rep.dp _ _ _ _ e1 h', Rep.dp _ _ _ _ e2 h, s1, s2, k _ H (gd.addB _)⟩
end
/-- is it None? -/
def isNon : D → Option Bool
  | .non => some true
  | .val v => some (decide (v = .non))
  | _ => some false
def oIs (a b : D) : Option (D × D × D) := match b, isNon a with
  | .non, some k => some (.bl k, a, .non)
  | _, _ => none
def oIsNot (a b : D) : Option (D × D × D) := match b, isNon a with
  | .non, some k => some (.bl (!k), a, .non)
  | _, _ => none
theorem isNon_ok {c : Cn} {Z : Addr → Prop} {H : Hp} {v : V} {f : List Addr} {d : D} {k : Bool} (h : Rep c Z H d v f) (e : isNon d = some k) : k = decide (v = .non) := by
  cases d with
  | non => cases e; rw [h.1]; rfl
  | bl b => cases e; rw [h.1]; rfl
  | int i => cases e; rw [h.1]; rfl
  | str x => cases e; rw [h.1]; rfl
  | val u => cases e; rw [h.1]
  | seq xs => simp only [Rep] at h; obtain ⟨a, e', _⟩ := h; cases e; rw [e']; rfl
  | exn => simp only [Rep] at h; obtain ⟨⟨a, e'⟩, _⟩ := h; cases e; rw [e']; rfl
  | lst o xs => simp only [Rep] at h; obtain ⟨a, vs, f', e', _⟩ := h; cases e; rw [e']; rfl
  | tup xs => simp only [Rep] at h; obtain ⟨a, vs, e', _⟩ := h; cases e; rw [e']; rfl
  | dic o ks xs => simp only [Rep] at h; obtain ⟨a, vs, f', e', _⟩ := h; cases e; rw [e']; rfl
  | ins o C fs xs => simp only [Rep] at h; obtain ⟨a, vs, f', e', _⟩ := h; cases e; rw [e']; rfl
section
variable {c : Cn}
theorem g_is : G2 c (fun x y H Q => y = .non ∧ Q (.bl (decide (x = .non))) H) oIs := by
  intro H x y a b T Q d a' b' e gd k
  unfold oIs at e
  split at e
  · rename_i kk e1
    cases e
    obtain ⟨Z, f, h⟩ := gd.tail.head
    refine ⟨gd.isN, ?_⟩
    rw [← isNon_ok h e1]
    exact k _ H (gd.addB _)
  · cases e
theorem g_isNot : G2 c (fun x y H Q => y = .non ∧ Q (.bl (!decide (x = .non))) H) oIsNot := by
  intro H x y a b T Q d a' b' e gd k
  unfold oIsNot at e
  split at e
  · rename_i kk e1
    cases e
    obtain ⟨Z, f, h⟩ := gd.tail.head
    refine ⟨gd.isN, ?_⟩
    rw [← isNon_ok h e1]
    exact k _ H (gd.addB _)
  · cases e
end
end Mir
end
section
set_option Elab.async false
set_option linter.all false
set_option maxRecDepth 100000
set_option maxHeartbeats 2000000
/-! Mir3: tests, displays, statements, loops, comprehensions, defs and calls. -/
namespace Mir
open PySem PySem.Spec PyProof.Rows L2

section
variable {c : Cn} {EX : XW}
/-! ### tests -/
def asB (f : M D) : M Bool := do
  let d ← f
  match d with
  | .bl b => pure b
  | _ => badM
theorem TtOk.test {t : TE} {f : M D} (h : TOk c EX t f) : TtOk c EX (tTest t) (asB f) := fun H σ ρ T Q ft gd p => by
  refine h H σ ρ T _ ft gd ((bind_post.mp p).imp (fun d ρ1 h2 v H1 f1 g1 => ?_) fun _ _ q => q)
  cases d with
  | bl b => exact ⟨b, g1.isB, h2 H1 f1 g1.tail⟩
  | _ => exact h2.elim
theorem TtOk.val {t : TE} {f : M D} (h : TOk c EX t f) : TtOk c EX (tB t) (asB f) := TtOk.test h
/-- truth -/
def tru : D → Option Bool
  | .non => some false
  | .bl b => some b
  | .int i => some (i != 0)
  | .str y => if y.length ≤ sizeLine then some ((y.length : Int) != 0) else none
  | .lst _ xs => some (!xs.isEmpty)
  | .tup xs => some (!xs.isEmpty)
  | .dic true ks _ => some (!ks.isEmpty)
  | _ => none
theorem empty_len {α β : Type} {xs : List α} {ys : List β} (h : xs.length = ys.length) : (!xs.isEmpty) = !ys.isEmpty := by
  cases xs <;> cases ys <;> first | rfl | cases h
theorem tru_ok' {Z : Addr → Prop} {H : Hp} {v : V} {f : List Addr} {d : D} {k : Bool} (h : Rep c Z H d v f) (e : tru d = some k) : TruV c.K v H k := by
  cases d with
  | exn => cases e
  | non => cases e; rw [h.1]; rfl
  | bl b => cases e; rw [h.1]; rfl
  | int i => cases e; rw [h.1]; rfl
  | str y =>
    have e : (if y.length ≤ sizeLine then some ((y.length : Int) != 0) else none) = some k := e
    by_cases q : y.length ≤ sizeLine
    · rw [if_pos q] at e
      cases e
      rw [h.1]
      exact ⟨q, rfl⟩
    · rw [if_neg q] at e
      cases e
  | val u => cases e
  | seq xs => cases e
  | lst o xs =>
    simp only [Rep] at h
    obtain ⟨a, vs, f', ev, r, q⟩ := h
    cases e
    rw [ev]
    refine .inl ⟨vs, ?_, (empty_len (RepL.len _ _ _ r)).symm⟩
    cases o with
    | true => simp only [if_true] at q; exact .of q.1
    | false => simp only [Bool.false_eq_true, if_false] at q; exact .inl q.1
  | tup xs =>
    simp only [Rep] at h
    obtain ⟨a, vs, ev, r, q⟩ := h
    cases e
    rw [ev]
    exact .inr (.inl ⟨vs, q, (empty_len (RepL.len _ _ _ r)).symm⟩)
  | dic o ks xs =>
    cases o with
    | false => cases e
    | true =>
      simp only [Rep, if_true] at h
      obtain ⟨a, vs, f', ev, r, l, q1, q2⟩ := h
      cases e
      rw [ev]
      refine .inr (.inr ⟨_, q1, ?_⟩)
      refine empty_len ?_
      rw [List.length_zip, RepL.len _ _ _ r, l, Nat.min_self]
  | ins o C fs xs => cases e
def evT (o : Opn) : M Bool := match o with
  | .tmp f => do
    let a ← f
    optM (tru a)
  | .slot i => do
    let a ← peek i
    optM (tru a)
theorem TtOk.truth {t : TE} {o : Opn} (h : OpnOk c EX t o) : TtOk c EX (fun σ H Q => t σ H fun x H' => ∃ k, TruV c.K x H' k ∧ Q k H') (evT o) := fun H σ ρ T Q ft gd p => by
  cases o with
  | tmp f =>
    refine h H σ ρ T _ ft gd ((bind_post.mp p).imp (fun d ρ1 h2 v H1 f1 g1 => ?_) fun _ _ q => q)
    obtain ⟨k, e, h3⟩ := opt_post.mp h2
    obtain ⟨Z, f', r⟩ := g1.head
    exact ⟨k, tru_ok' r e, h3 H1 f1 g1.tail⟩
  | slot i =>
    cases h
    obtain ⟨a, e, h2⟩ := peek_post.mp (bind_post.mp p)
    obtain ⟨k, e2, h3⟩ := opt_post.mp h2
    obtain ⟨v, q⟩ := ft.has i a e
    obtain ⟨Z, f', r⟩ := (slot_out gd e q).head
    exact ⟨v, q, k, tru_ok' r e2, h3 H ft gd⟩
def andT (f g : M Bool) : M Bool := do
  let b ← f
  if b = true then g else pure false
def orT (f g : M Bool) : M Bool := do
  let b ← f
  if b = true then pure true else g
def notT (f : M Bool) : M Bool := do
  let b ← f
  pure (!b)
theorem TtOk.and {t u : TT} {f g : M Bool} (h : TtOk c EX t f) (k : TtOk c EX u g) : TtOk c EX (tAnd t u) (andT f g) := fun H σ ρ T Q ft gd p => by
  refine h H σ ρ T _ ft gd ((bind_post.mp p).imp (fun b ρ1 h2 H1 f1 g1 => ?_) fun _ _ q => q)
  cases b with
  | true => exact k H1 σ ρ1 T Q f1 g1 h2
  | false => exact h2 H1 f1 g1
theorem TtOk.or {t u : TT} {f g : M Bool} (h : TtOk c EX t f) (k : TtOk c EX u g) : TtOk c EX (tOr t u) (orT f g) := fun H σ ρ T Q ft gd p => by
  refine h H σ ρ T _ ft gd ((bind_post.mp p).imp (fun b ρ1 h2 H1 f1 g1 => ?_) fun _ _ q => q)
  cases b with
  | true => exact h2 H1 f1 g1
  | false => exact k H1 σ ρ1 T Q f1 g1 h2
theorem TtOk.not {t : TT} {f : M Bool} (h : TtOk c EX t f) : TtOk c EX (tNot t) (notT f) := fun H σ ρ T Q ft gd p =>
  h H σ ρ T _ ft gd ((bind_post.mp p).imp (fun b ρ1 h2 H1 f1 g1 => h2 H1 f1 g1) fun _ _ q => q)
/-- .. as values -/
def andV (f g : M D) : M D := do
  let b ← asB f
  if b = true then g else pure (.bl false)
def orV (f g : M D) : M D := do
  let b ← asB f
  if b = true then pure (.bl true) else g
def notV (f : M D) : M D := do
  let b ← asB f
  pure (.bl (!b))
theorem asB_post {f : M D} {K : Bool → Env → Prop} {KE : Exn → Env → Prop} {ρ : Env} (h : OPost K KE (asB f ρ)) : OPost (fun d ρ1 => ∃ b, d = .bl b ∧ K b ρ1) KE (f ρ) := (bind_post.mp h).imp (fun d ρ1 h2 => by
  cases d with
  | bl b => exact ⟨b, rfl, h2⟩
  | _ => exact h2.elim) fun _ _ q => q
theorem TOk.andV {t u : TE} {f g : M D} (h : TOk c EX t f) (k : TOk c EX u g) : TOk c EX (tAndV t u) (andV f g) := fun H σ ρ T Q ft gd p => by
  refine h H σ ρ T _ ft gd ((asB_post (bind_post.mp p)).imp (fun d ρ1 h2 v H1 f1 g1 => ?_) fun _ _ q => q)
  obtain ⟨b, rfl, h3⟩ := h2
  refine ⟨b, g1.isB, ?_⟩
  cases b with
  | true => exact k H1 σ ρ1 T Q f1 g1.tail h3
  | false => exact h3 _ H1 f1 (g1.tail.addB false)
theorem TOk.orV {t u : TE} {f g : M D} (h : TOk c EX t f) (k : TOk c EX u g) : TOk c EX (tOrV t u) (orV f g) := fun H σ ρ T Q ft gd p => by
  refine h H σ ρ T _ ft gd ((asB_post (bind_post.mp p)).imp (fun d ρ1 h2 v H1 f1 g1 => ?_) fun _ _ q => q)
  obtain ⟨b, rfl, h3⟩ := h2
  refine ⟨b, g1.isB, ?_⟩
  cases b with
  | true => exact h3 _ H1 f1 (g1.tail.addB true)
  | false => exact k H1 σ ρ1 T Q f1 g1.tail h3
theorem TOk.notV {t : TE} {f : M D} (h : TOk c EX t f) : TOk c EX (tNotV t) (notV f) := fun H σ ρ T Q ft gd p => by
  refine h H σ ρ T _ ft gd ((asB_post (bind_post.mp p)).imp (fun d ρ1 h2 v H1 f1 g1 => ?_) fun _ _ q => q)
  obtain ⟨b, rfl, h3⟩ := h2
  exact ⟨b, g1.isB, h3 _ H1 f1 (g1.tail.addB (!b))⟩
def ifV (t : M Bool) (f g : M D) : M D := do
  let b ← t
  if b = true then f else g
theorem TOk.ifV {t : TT} {ta tb : TE} {m : M Bool} {f g : M D} (h : TtOk c EX t m) (ha : TOk c EX ta f) (hb : TOk c EX tb g) : TOk c EX (tIf t ta tb) (ifV m f g) := fun H σ ρ T Q ft gd p => by
  refine h H σ ρ T _ ft gd ((bind_post.mp p).imp (fun b ρ1 h2 H1 f1 g1 => ?_) fun _ _ q => q)
  cases b with
  | true => exact ha H1 σ ρ1 T Q f1 g1 h2
  | false => exact hb H1 σ ρ1 T Q f1 g1 h2

/-! ### argument lists, displays -/
def TaOk (c : Cn) (EX : XW) (t : TA) (f : M (List D)) : Prop := ∀ (H : Hp) (σ : St) (ρ : Env) (T : List (V × D)) (Q : List V → Hp → Prop), Fit c σ ρ → Good c H [] (T ++ sl σ ρ) →
  OPost (fun ds ρ' => ∀ vs H', vs.length = ds.length → Fit c σ ρ' → Good c H' [] (vs.zip ds ++ (T ++ sl σ ρ')) → Q vs H') (XPost c EX T σ) (f ρ) → t σ H Q
def consM (f : M D) (g : M (List D)) : M (List D) := do
  let d ← f
  let ds ← g
  pure (d :: ds)
theorem TaOk.nil : TaOk c EX tNil (pure []) := fun H σ ρ T Q ft gd p => p [] H rfl ft gd
theorem TaOk.cons {t : TE} {u : TA} {f : M D} {g : M (List D)} (h : TOk c EX t f) (k : TaOk c EX u g) : TaOk c EX (tCons t u) (consM f g) := fun H σ ρ T Q ft gd p => by
  refine h H σ ρ T _ ft gd ((bind_post.mp p).imp (fun d ρ1 h2 v H1 f1 g1 => ?_) fun _ _ q => q)
  refine k H1 σ ρ1 ((v, d) :: T) _ f1 g1 ((bind_post.mp h2).imp (fun ds ρ2 h3 vs H2 l f2 g2 => ?_) fun _ _ q => q.more)
  exact h3 (v :: vs) H2 (by rw [List.length_cons, List.length_cons, l]) f2 (g2.perm List.perm_middle)
def lstM (f : M (List D)) : M D := do
  let ds ← f
  if ds.length ≤ sizeLine then pure (.lst true ds) else badM
def tupM (f : M (List D)) : M D := do
  let ds ← f
  if ds.length ≤ sizeLine then pure (.tup ds) else badM
theorem TOk.lst {t : TA} {f : M (List D)} (h : TaOk c EX t f) : TOk c EX (tLst t) (lstM f) := fun H σ ρ T Q ft gd p => by
  refine h H σ ρ T _ ft gd ((bind_post.mp p).imp (fun ds ρ1 h2 vs H1 l f1 g1 => ?_) fun _ _ q => q)
  by_cases z : ds.length ≤ sizeLine
  · rw [if_pos z] at h2
    exact ⟨by rw [l]; exact z, fun p hp => h2 _ _ f1 (g1.newL l hp (by simp))⟩
  · rw [if_neg z] at h2
    exact h2.elim
theorem TOk.tup {t : TA} {f : M (List D)} (h : TaOk c EX t f) : TOk c EX (tTup t) (tupM f) := fun H σ ρ T Q ft gd p => by
  refine h H σ ρ T _ ft gd ((bind_post.mp p).imp (fun ds ρ1 h2 vs H1 l f1 g1 => ?_) fun _ _ q => q)
  by_cases z : ds.length ≤ sizeLine
  · rw [if_pos z] at h2
    exact ⟨by rw [l]; exact z, fun p hp => h2 _ _ f1 (g1.newT l hp (by simp))⟩
  · rw [if_neg z] at h2
    exact h2.elim
end

/-! ### statements -/
inductive Flw where
  | nx | rt (d : D) | bk | ct
structure Agr (W : List Nat) (σ σ' : St) : Prop where
  len : σ'.length = σ.length
  at' : ∀ (i : Nat), i ∉ W → σ'[i]? = σ[i]?
theorem Agr.refl {W : List Nat} {σ : St} : Agr W σ σ := ⟨rfl, fun _ _ => rfl⟩
theorem Agr.trans {W W' : List Nat} {σ σ' σ'' : St} (h : Agr W σ σ') (k : Agr W' σ' σ'') : Agr (W ++ W') σ σ'' :=
  ⟨k.len.trans h.len, fun i hi => (k.at' i fun z => hi (List.mem_append_right _ z)).trans (h.at' i fun z => hi (List.mem_append_left _ z))⟩
theorem Agr.same {W : List Nat} {σ σ' σ'' : St} (h : Agr W σ σ') (k : Agr W σ' σ'') : Agr W σ σ'' :=
  ⟨k.len.trans h.len, fun i hi => (k.at' i hi).trans (h.at' i hi)⟩
theorem Agr.more {W W' : List Nat} {σ σ' : St} (h : Agr W σ σ') (k : ∀ i ∈ W, i ∈ W') : Agr W' σ σ' := ⟨h.len, fun i hi => h.at' i fun z => hi (k i z)⟩
theorem Agr.set {σ : St} {i : Nat} {v : Option V} : Agr [i] σ (σ.set i v) := ⟨List.length_set, fun j hj => List.getElem?_set_ne fun e => hj (by rw [e]; exact List.mem_cons_self)⟩

def FPost (c : Cn) (W : List Nat) (T : List (V × D)) (σ : St) (Dn : Ends) (fl : Flw) (ρ : Env) : Prop := match fl with
  | .nx => ∀ σ' H, Agr W σ σ' → Fit c σ' ρ → Good c H [] (T ++ sl σ' ρ) → Dn.nx σ' H
  | .bk => ∀ σ' H, Agr W σ σ' → Fit c σ' ρ → Good c H [] (T ++ sl σ' ρ) → Dn.bk σ' H
  | .ct => ∀ σ' H, Agr W σ σ' → Fit c σ' ρ → Good c H [] (T ++ sl σ' ρ) → Dn.ct σ' H
  | .rt d => ∀ v σ' H, Agr W σ σ' → Fit c σ' ρ → Good c H [] ((v, d) :: (T ++ sl σ' ρ)) → Dn.rt v H
def XPostS (c : Cn) (EX : XW) (W : List Nat) (T : List (V × D)) (σ : St) (x : Exn) (ρ : Env) : Prop := ∀ σ', Agr W σ σ' → XPost c EX T σ' x ρ
/-- a statement's reading keeps to g; W: the slots that it stores -/
def SOk (c : Cn) (EX : XW) (W : List Nat) (t : TS) (g : M Flw) : Prop := ∀ (H : Hp) (σ : St) (ρ : Env) (T : List (V × D)) (Dn : Ends), Fit c σ ρ → Good c H [] (T ++ sl σ ρ) →
  OPost (FPost c W T σ Dn) (XPostS c EX W T σ) (g ρ) → t Dn σ H
/-- a target's -/
def GOk (c : Cn) (W : List Nat) (g : TG) (h : D → M Unit) : Prop := ∀ (H : Hp) (σ : St) (ρ : Env) (T : List (V × D)) (v : V) (d : D) (Q : St → Hp → Prop), Fit c σ ρ → Good c H [] ((v, d) :: (T ++ sl σ ρ)) →
  OPost (fun _ ρ' => ∀ σ' H', Agr W σ σ' → Fit c σ' ρ' → Good c H' [] (T ++ sl σ' ρ') → Q σ' H') (fun _ _ => False) (h d ρ) → g v σ H Q
def GsOk (c : Cn) (W : List Nat) (g : TGs) (h : List D → M Unit) : Prop := ∀ (H : Hp) (σ : St) (ρ : Env) (T : List (V × D)) (vs : List V) (ds : List D) (Q : St → Hp → Prop), Fit c σ ρ → vs.length = ds.length → Good c H [] (vs.zip ds ++ (T ++ sl σ ρ)) →
  OPost (fun _ ρ' => ∀ σ' H', Agr W σ σ' → Fit c σ' ρ' → Good c H' [] (T ++ sl σ' ρ') → Q σ' H') (fun _ _ => False) (h ds ρ) → g vs σ H Q
def stv (i : Nat) (d : D) : M Unit := fun ρ => if i < ρ.length then (if isx d = true then .bad else .ok () (ρ.set i (some d))) else .bad
theorem stv_post {K : Unit → Env → Prop} {KE : Exn → Env → Prop} {i : Nat} {d : D} {ρ : Env} (h : OPost K KE (stv i d ρ)) : i < ρ.length ∧ some d ≠ some D.exn ∧ K () (ρ.set i (some d)) := by
  unfold stv at h
  split at h
  · rename_i q
    by_cases z : isx d = true
    · rw [if_pos z] at h
      exact h.elim
    · rw [if_neg z] at h
      exact ⟨q, fun e => z (by cases e; rfl), h⟩
  · exact h.elim
theorem slot_store {c : Cn} {H : Hp} {T : List (V × D)} {σ : St} {ρ : Env} {i : Nat} {d : D} {v : V} (f : Fit c σ ρ) (g : Good c H [] ((v, d) :: (T ++ sl σ ρ))) (hi : i < ρ.length) : Good c H [] (T ++ sl (σ.set i (some v)) (ρ.set i (some d))) := by
  have g1 : Good c H [] ((v, d) :: (T ++ sl σ (ρ.set i none))) := g.sub ((List.Sublist.append (.refl T) sl_sub).cons_cons _)
  exact (g1.perm List.perm_middle.symm).perm (List.Perm.append_left T (sl_store hi f.len).symm)
section
variable {c : Cn} {EX : XW}
theorem GOk.name {i : Nat} : GOk c [i] (gName i) (stv i) := fun H σ ρ T v d Q f g p => by
  obtain ⟨hi, hx, q⟩ := stv_post p
  exact q _ H .set (f.store hi hx) (slot_store f g hi)
theorem GsOk.nil : GsOk c [] gNil (fun ds => match ds with | [] => pure () | _ => badM) := fun H σ ρ T vs ds Q f l g p => by
  cases ds with
  | nil =>
    cases vs with
    | nil => exact ⟨rfl, p σ H .refl f g⟩
    | cons _ _ => cases l
  | cons _ _ => exact p.elim
theorem OPost.noX {α : Type} {K : α → Env → Prop} {KE : Exn → Env → Prop} {o : Out α} (h : OPost K (fun _ _ => False) o) : OPost K KE o := h.imp (fun _ _ q => q) fun _ _ z => z.elim
theorem GsOk.cons {W W' : List Nat} {g : TG} {gs : TGs} {h : D → M Unit} {hs : List D → M Unit} (k : GOk c W g h) (ks : GsOk c W' gs hs) :
    GsOk c (W ++ W') (gCons g gs) (fun ds => match ds with | d :: r => (do h d; hs r) | [] => badM) := fun H σ ρ T vs ds Q f l gd p => by
  cases ds with
  | nil => exact p.elim
  | cons d r =>
    cases vs with
    | nil => cases l
    | cons v vr =>
      refine ⟨v, vr, rfl, ?_⟩
      refine k H σ ρ (vr.zip r ++ T) v d _ f (by rw [List.append_assoc]; exact gd) ((bind_post.mp p).imp (fun _ ρ1 p1 σ1 H1 a1 f1 g1 => ?_) fun _ _ z => z)
      exact ks H1 σ1 ρ1 T vr r Q f1 (Nat.succ.inj l) (by rw [← List.append_assoc]; exact g1) (p1.imp (fun _ ρ2 q σ2 H2 a2 f2 g2 => q σ2 H2 (a1.trans a2) f2 g2) fun _ _ z => z)
theorem GOk.tup {W : List Nat} {n : Nat} {gs : TGs} {hs : List D → M Unit} (k : GsOk c W gs hs) : GOk c W (gTup c.K n gs) (fun d => match d with | .tup ds => (if ds.length = n then hs ds else badM) | _ => badM) := fun H σ ρ T v d Q f gd p => by
  cases d with
  | tup ds =>
    by_cases q : ds.length = n
    · simp only [q, if_true] at p
      obtain ⟨a, vs, e, hq, hl, g1⟩ := gd.openT
      exact ⟨a, vs, e, hq, hl.trans q, k H σ ρ T vs ds Q f hl g1 p⟩
    · simp only [q, if_false] at p
      exact p.elim
  | _ => exact p.elim

def seqM (f g : M Flw) : M Flw := do
  let fl ← f
  match fl with
  | .nx => g
  | x => pure x
theorem FPost.more {W W' : List Nat} {T : List (V × D)} {σ : St} {Dn : Ends} {fl : Flw} {ρ : Env} (h : FPost c W' T σ Dn fl ρ) (k : ∀ i ∈ W, i ∈ W') : FPost c W T σ Dn fl ρ := by
  cases fl with
  | nx => exact fun σ' H a f g => h σ' H (a.more k) f g
  | bk => exact fun σ' H a f g => h σ' H (a.more k) f g
  | ct => exact fun σ' H a f g => h σ' H (a.more k) f g
  | rt d => exact fun v σ' H a f g => h v σ' H (a.more k) f g
theorem XPostS.more {W W' : List Nat} {T : List (V × D)} {σ : St} {x : Exn} {ρ : Env} (h : XPostS c EX W' T σ x ρ) (k : ∀ i ∈ W, i ∈ W') : XPostS c EX W T σ x ρ := fun σ' a => h σ' (a.more k)
theorem FPost.from {W : List Nat} {T : List (V × D)} {σ σ1 : St} {Dn : Ends} {fl : Flw} {ρ : Env} (h : FPost c W T σ Dn fl ρ) (a : Agr W σ σ1) : FPost c W T σ1 Dn fl ρ := by
  cases fl with
  | nx => exact fun σ' H a' f g => h σ' H (a.same a') f g
  | bk => exact fun σ' H a' f g => h σ' H (a.same a') f g
  | ct => exact fun σ' H a' f g => h σ' H (a.same a') f g
  | rt d => exact fun v σ' H a' f g => h v σ' H (a.same a') f g
theorem XPostS.from {W : List Nat} {T : List (V × D)} {σ σ1 : St} {x : Exn} {ρ : Env} (h : XPostS c EX W T σ x ρ) (a : Agr W σ σ1) : XPostS c EX W T σ1 x ρ := fun σ' a' => h σ' (a.same a')
theorem SOk.more {W W' : List Nat} {t : TS} {g : M Flw} (h : SOk c EX W t g) (k : ∀ i ∈ W, i ∈ W') : SOk c EX W' t g := fun H σ ρ T Dn f gd p =>
  h H σ ρ T Dn f gd (p.imp (fun _ _ q => q.more k) fun _ _ q => q.more k)
theorem SOk.seq {W W' : List Nat} {t u : TS} {f g : M Flw} (h : SOk c EX W t f) (k : SOk c EX W' u g) : SOk c EX (W ++ W') (tSeq t u) (seqM f g) := fun H σ ρ T Dn ft gd p => by
  have l1 : ∀ i ∈ W, i ∈ W ++ W' := fun i z => List.mem_append_left _ z
  have l2 : ∀ i ∈ W', i ∈ W ++ W' := fun i z => List.mem_append_right _ z
  refine h H σ ρ T _ ft gd ((bind_post.mp p).imp (fun fl ρ1 q => ?_) fun _ _ q => q.more l1)
  cases fl with
  | nx => exact fun σ1 H1 a1 f1 g1 => (k.more l2) H1 σ1 ρ1 T Dn f1 g1 (q.imp (fun _ _ z => z.from (a1.more l1)) fun _ _ z => z.from (a1.more l1))
  | bk => exact fun σ1 H1 a1 f1 g1 => q σ1 H1 (a1.more l1) f1 g1
  | ct => exact fun σ1 H1 a1 f1 g1 => q σ1 H1 (a1.more l1) f1 g1
  | rt d => exact fun v σ1 H1 a1 f1 g1 => q v σ1 H1 (a1.more l1) f1 g1
theorem SOk.next : SOk c EX [] tNext (pure .nx) := fun H σ ρ T Dn f g p => p σ H .refl f g
theorem SOk.brk : SOk c EX [] tBreak (pure .bk) := fun H σ ρ T Dn f g p => p σ H .refl f g
theorem SOk.cnt : SOk c EX [] tCont (pure .ct) := fun H σ ρ T Dn f g p => p σ H .refl f g
theorem SOk.never : SOk c EX [] tNever badM := fun H σ ρ T Dn f g p => p
def retM (f : M D) : M Flw := do
  let d ← f
  pure (.rt d)
theorem SOk.ret {t : TE} {f : M D} (h : TOk c EX t f) : SOk c EX [] (tRet t) (retM f) := fun H σ ρ T Dn ft gd p =>
  h H σ ρ T _ ft gd ((bind_post.mp p).imp (fun d ρ1 q v H1 f1 g1 => q v σ H1 .refl f1 g1) fun _ _ q => q σ .refl)
theorem SOk.retN : SOk c EX [] tRetN (pure (.rt .non)) := fun H σ ρ T Dn f g p => p .non σ H .refl f g.addN
def dropM (f : M D) : M Flw := do
  let _ ← f
  pure .nx
theorem SOk.drop {t : TE} {f : M D} (h : TOk c EX t f) : SOk c EX [] (tDrop t) (dropM f) := fun H σ ρ T Dn ft gd p =>
  h H σ ρ T _ ft gd ((bind_post.mp p).imp (fun d ρ1 q v H1 f1 g1 => q σ H1 .refl f1 g1.tail) fun _ _ q => q σ .refl)
def noX {α : Type} (f : M α) : M α := fun ρ => match f ρ with
  | .err _ _ => .bad
  | o => o
theorem noX_post {α : Type} {f : M α} {K : α → Env → Prop} {KE : Exn → Env → Prop} {ρ : Env} (h : OPost K KE (noX f ρ)) : OPost K (fun _ _ => False) (f ρ) := by
  unfold noX at h
  cases e : f ρ with
  | ok a r => rw [e] at h; exact h
  | err x r => rw [e] at h; exact h
  | bad => rw [e] at h; exact h
def asgM (f : M D) (h : D → M Unit) : M Flw := do
  let d ← f
  noX (h d)
  pure .nx
theorem SOk.asg {W : List Nat} {t : TE} {g : TG} {f : M D} {h : D → M Unit} (ht : TOk c EX t f) (hg : GOk c W g h) : SOk c EX W (tAsg t g) (asgM f h) := fun H σ ρ T Dn ft gd p =>
  ht H σ ρ T _ ft gd ((bind_post.mp p).imp (fun d ρ1 q v H1 f1 g1 => hg H1 σ ρ1 T v d _ f1 g1 ((noX_post (bind_post.mp q)).imp (fun _ ρ2 q2 σ2 H2 a2 f2 g2 => q2 σ2 H2 a2 f2 g2) fun _ _ z => z)) fun _ _ q => q σ .refl)
def parM (i j : Nat) (f : M (List D)) : M Flw := do
  let ds ← f
  match ds with
  | [a, b] => (do noX (stv i a); noX (stv j b); pure .nx)
  | _ => badM
theorem SOk.par {i j : Nat} {t : TA} {f : M (List D)} (h : TaOk c EX t f) : SOk c EX [i, j] (tPar i j t) (parM i j f) := fun H σ ρ T Dn ft gd p => by
  refine h H σ ρ T _ ft gd ((bind_post.mp p).imp (fun ds ρ1 q vs H1 l f1 g1 => ?_) fun _ _ q => q σ .refl)
  match ds, vs, l, q, g1 with
  | [a, b], [v, w], _, q, g1 =>
    obtain ⟨hi, hx, q2⟩ := stv_post (noX_post (bind_post.mp q))
    obtain ⟨hj, hx2, q3⟩ := stv_post (noX_post (bind_post.mp q2))
    refine ⟨v, w, rfl, ?_⟩
    have f2 := f1.store (v := v) (d := some a) hi hx
    have g2 : Good c H1 [] (((w, b) :: T) ++ sl (σ.set i (some v)) (ρ1.set i (some a))) := slot_store (T := (w, b) :: T) f1 g1 hi
    have g3 := slot_store (T := T) f2 g2 hj
    exact q3 _ H1 ((Agr.set.more fun k z => by simp at z; simp [z]).same (Agr.set.more fun k z => by simp at z; simp [z])) (f2.store hj hx2) g3
  | [], _, _, q, _ => exact q.elim
  | [_], _, _, q, _ => exact q.elim
  | _ :: _ :: _ :: _, _, _, q, _ => exact q.elim
def ifM (t : M Bool) (f g : M Flw) : M Flw := do
  let b ← t
  if b = true then f else g
theorem SOk.ifS {W W' : List Nat} {t : TT} {u w : TS} {m : M Bool} {f g : M Flw} (h : TtOk c EX t m) (ha : SOk c EX W u f) (hb : SOk c EX W' w g) : SOk c EX (W ++ W') (tIfS t u w) (ifM m f g) := fun H σ ρ T Dn ft gd p => by
  refine h H σ ρ T _ ft gd ((bind_post.mp p).imp (fun b ρ1 q H1 f1 g1 => ?_) fun _ _ q => q σ .refl)
  cases b with
  | true => exact (ha.more fun i z => List.mem_append_left _ z) H1 σ ρ1 T Dn f1 g1 q
  | false => exact (hb.more fun i z => List.mem_append_right _ z) H1 σ ρ1 T Dn f1 g1 q
/-- name op= e -/
def augM (i : Nat) (f : M D) (g : D → D → Option (D × D × D)) : M Flw := do
  let _ ← peek i
  let b ← f
  let a ← peek i
  let p ← optM (g a b)
  noX (stv i p.1)
  pure .nx
theorem SOk.aug {i : Nat} {t : TE} {r : R2} {f : M D} {g : D → D → Option (D × D × D)} (h : TOk c EX t f) (hr : G2 c r g) : SOk c EX [i] (tAug i t r) (augM i f g) := fun H σ ρ T Dn ft gd p => by
  obtain ⟨a0, e0, p1⟩ := peek_post.mp (bind_post.mp p)
  obtain ⟨v, k⟩ := ft.has i a0 e0
  refine ⟨v, k, ?_⟩
  refine h H σ ρ T _ ft gd ((bind_post.mp p1).imp (fun b ρ1 q u H1 f1 g1 => ?_) fun _ _ q => q σ .refl)
  obtain ⟨a, e, q1⟩ := peek_post.mp (bind_post.mp q)
  obtain ⟨pr, e2, q2⟩ := opt_post.mp (bind_post.mp q1)
  obtain ⟨hi, hx, q3⟩ := stv_post (noX_post (bind_post.mp q2))
  refine hr H1 v u a b _ _ pr.1 pr.2.1 pr.2.2 e2 (slot_out (T := (u, b) :: T) g1 e k).swap fun z H2 g2 => q3 _ H2 .set (f1.store hi hx) ?_
  have g3 : Good c H2 [] ((z, pr.1) :: (T ++ sl σ (ρ1.set i none))) := g2.drop1.drop1
  exact (g3.perm List.perm_middle.symm).perm (List.Perm.append_left T (sl_store hi f1.len).symm)

/-! ### loops -/
def loopM (tg : D → M Unit) (body : M Flw) : List D → M Flw
  | [] => pure .nx
  | d :: ds => do
    noX (tg d)
    let fl ← body
    match fl with
    | .nx => loopM tg body ds
    | .ct => loopM tg body ds
    | .bk => pure .nx
    | .rt x => pure (.rt x)
theorem Good.seqAt {H : Hp} {R : List Addr} {L : List (V × D)} {v : V} {vs : List V} (g : Good c H R ((v, .seq vs) :: L)) : ∃ a, v = .ref a ∧ SqL c.K H a vs := by
  obtain ⟨Z, f, h⟩ := g.head
  simp only [Rep] at h
  obtain ⟨a, e, q, _⟩ := h
  exact ⟨a, e, q⟩
theorem drop_at {α : Type} {l : List α} {k : Nat} {x : α} (h : l[k]? = some x) : l.drop k = x :: l.drop (k + 1) := by
  obtain ⟨h1, h2⟩ := List.getElem?_eq_some_iff.mp h
  rw [List.drop_eq_getElem_cons h1, h2]
/-- one turn: the target, the body -/
theorem turn_ok {W W' : List Nat} {g : TG} {tb : TS} {tg : D → M Unit} {body : M Flw} (hg : GOk c W g tg) (hb : SOk c EX W' tb body) {H : Hp} {σ0 σ : St} {ρ : Env} {T U : List (V × D)} {v : V} {d : D} {ds : List D} {D : Ends} {Nx : St → Hp → Prop}
    (f : Fit c σ ρ) (gd : Good c H [] ((v, d) :: (U ++ (T ++ sl σ ρ)))) (ag : Agr (W ++ W') σ0 σ) (p : OPost (FPost c (W ++ W') T σ0 D) (XPostS c EX (W ++ W') T σ0) (loopM tg body (d :: ds) ρ))
    (nx : ∀ σ' H' ρ', Agr (W ++ W') σ0 σ' → Fit c σ' ρ' → Good c H' [] (U ++ (T ++ sl σ' ρ')) → OPost (FPost c (W ++ W') T σ0 D) (XPostS c EX (W ++ W') T σ0) (loopM tg body ds ρ') → Nx σ' H') :
    g v σ H fun σ2 H2 => tb { D with nx := Nx, ct := Nx, bk := D.nx } σ2 H2 := by
  have l1 : ∀ i ∈ W, i ∈ W ++ W' := fun i z => List.mem_append_left _ z
  have l2 : ∀ i ∈ W', i ∈ W ++ W' := fun i z => List.mem_append_right _ z
  refine hg H σ ρ (U ++ T) v d _ f (by rw [List.append_assoc]; exact gd) ((noX_post (bind_post.mp p)).imp (fun _ ρ1 p1 σ1 H1 a1 f1 g1 => ?_) fun _ _ z => z)
  have ag1 := ag.same (a1.more l1)
  have sb : ∀ {σ : St} {ρ : Env}, (T ++ sl σ ρ).Sublist ((U ++ T) ++ sl σ ρ) := fun {σ ρ} => List.Sublist.append (List.sublist_append_right U T) (.refl _)
  refine hb H1 σ1 ρ1 (U ++ T) _ f1 g1 ((bind_post.mp p1).imp (fun fl ρ2 p2 => ?_) fun x ρ2 q σ2 a2 => (q σ2 (ag1.same (a2.more l2))).sub (List.sublist_append_right U T))
  cases fl with
  | nx => exact fun σ2 H2 a2 f2 g2 => nx σ2 H2 ρ2 (ag1.same (a2.more l2)) f2 (by rw [List.append_assoc] at g2; exact g2) p2
  | ct => exact fun σ2 H2 a2 f2 g2 => nx σ2 H2 ρ2 (ag1.same (a2.more l2)) f2 (by rw [List.append_assoc] at g2; exact g2) p2
  | bk => exact fun σ2 H2 a2 f2 g2 => p2 σ2 H2 (ag1.same (a2.more l2)) f2 (g2.sub sb)
  | rt x => exact fun v2 σ2 H2 a2 f2 g2 => p2 v2 σ2 H2 (ag1.same (a2.more l2)) f2 (g2.sub (sb.cons_cons _))
def forL (f : M D) (tg : D → M Unit) (body : M Flw) : M Flw := do
  let d ← f
  match d with
  | .lst _ ds => loopM tg body (fzL ds)
  | _ => badM
theorem SOk.forL {W W' : List Nat} {t : TE} {g : TG} {tb : TS} {f : M D} {tg : D → M Unit} {body : M Flw} (ht : TOk c EX t f) (hg : GOk c W g tg) (hb : SOk c EX W' tb body) : SOk c EX (W ++ W') (tFor (iList c.K t) g tb) (forL f tg body) := fun H σ ρ T Dn ft gd p => by
  refine ht H σ ρ T _ ft gd ((bind_post.mp p).imp (fun d ρ1 q v H1 f1 g1 => ?_) fun _ _ q => q σ .refl)
  cases d with
  | lst o ds =>
    have g2 := g1.freeze
    simp only [fz] at g2
    obtain ⟨a, vs, e, hr, hl, g3⟩ := g2.readL
    refine ⟨a, e, ⟨vs, .inl hr⟩, ?_⟩
    refine for_list (K := c.K) (a := a) (xs := vs) (fun k σ' H' => ∃ ρ', Agr (W ++ W') σ σ' ∧ Fit c σ' ρ' ∧ Good c H' [] ((vs.drop k).zip ((fzL ds).drop k) ++ (v, .seq vs) :: (T ++ sl σ' ρ')) ∧
      OPost (FPost c (W ++ W') T σ Dn) (XPostS c EX (W ++ W') T σ) (loopM tg body ((fzL ds).drop k) ρ')) ⟨ρ1, .refl, f1, g3, q⟩ (fun k σ' H' _ h => ?_) (fun k x σ' H' hx h => ?_) (fun σ' H' h => ?_)
    · obtain ⟨ρ', _, _, g, _⟩ := h
      obtain ⟨a', e', s⟩ := (g.sub (List.sublist_append_right _ _)).seqAt
      rw [e] at e'
      cases e'
      exact s
    · obtain ⟨ρ', ag, f', g', p'⟩ := h
      have hk : k < (fzL ds).length := by rw [← hl]; exact ltE hx
      have hd := List.getElem?_eq_getElem hk
      rw [drop_at hd] at p' g'
      rw [drop_at hx] at g'
      refine turn_ok hg hb (U := (vs.drop (k + 1)).zip ((fzL ds).drop (k + 1)) ++ [(v, .seq vs)]) (T := T) (σ0 := σ) (D := Dn) f' (by rw [List.append_assoc]; exact g') ag p' fun σ2 H2 ρ2 ag2 f2 g2 p2 => ⟨ρ2, ag2, f2, by rw [List.append_assoc] at g2; exact g2, p2⟩
    · obtain ⟨ρ', ag, f', g', p'⟩ := h
      rw [List.drop_eq_nil_of_le (by omega)] at p'
      exact p' σ' H' ag f' (g'.sub ((List.sublist_cons_self _ _).trans (List.sublist_append_right _ _)))
  | _ => exact q.elim
/-- over a range -/
def rangeD (lo : Int) (n : Nat) : List D := (List.range n).map fun (i : Nat) => D.int (lo + (i : Int))
theorem rangeD_at {lo : Int} {n k : Nat} (h : k < n) : (rangeD lo n).drop k = .int (lo + (k : Int)) :: (rangeD lo n).drop (k + 1) := drop_at (by
  unfold rangeD
  rw [List.getElem?_map, List.getElem?_range h]
  rfl)
def inR (j : Int) : Bool := decide (-(2 ^ 62) ≤ j) && decide (j < 2 ^ 62)
theorem inR_ok {j : Int} (h : inR j = true) : -(2 ^ 62) ≤ j ∧ j < 2 ^ 62 := by
  unfold inR at h
  simp only [Bool.and_eq_true, decide_eq_true_eq] at h
  exact h
def forR1 (f : M (List D)) (tg : D → M Unit) (body : M Flw) : M Flw := do
  let ds ← f
  match ds with
  | [.int j] => if inR j = true then loopM tg body (rangeD 0 j.toNat) else badM
  | _ => badM
def forR2 (f : M (List D)) (tg : D → M Unit) (body : M Flw) : M Flw := do
  let ds ← f
  match ds with
  | [.int i, .int j] => if inR i = true ∧ inR j = true then loopM tg body (rangeD i (j - i).toNat) else badM
  | _ => badM
theorem range_ok {W W' : List Nat} {g : TG} {tb : TS} {tg : D → M Unit} {body : M Flw} (hg : GOk c W g tg) (hb : SOk c EX W' tb body) {lo : Int} {n : Nat} {H : Hp} {σ : St} {ρ : Env} {T : List (V × D)} {Dn : Ends} (f1 : Fit c σ ρ) (g1 : Good c H [] (T ++ sl σ ρ))
    (q : OPost (FPost c (W ++ W') T σ Dn) (XPostS c EX (W ++ W') T σ) (loopM tg body (rangeD lo n) ρ)) :
    ∃ W : Nat → Nat → St → Hp → Prop, (∃ m, W 0 m σ H) ∧ ∀ i m σ H, W i m σ H →
      ((Itr lo n).stop i H ∧ Dn.nx σ H) ∨ ((Itr lo n).go i H ∧ ∃ N : St → Hp → Prop, (∀ σ' H', N σ' H' → ∃ m', m' < m ∧ W (i + 1) m' σ' H') ∧ ∀ x H', (Itr lo n).yld i H x H' → g x σ H' fun σ2 H2 => tb { Dn with nx := N, ct := N, bk := Dn.nx } σ2 H2) := by
  refine for_range (lo := lo) (n := n) (fun k σ' H' => ∃ ρ', Agr (W ++ W') σ σ' ∧ Fit c σ' ρ' ∧ Good c H' [] (T ++ sl σ' ρ') ∧
      OPost (FPost c (W ++ W') T σ Dn) (XPostS c EX (W ++ W') T σ) (loopM tg body ((rangeD lo n).drop k) ρ')) ⟨ρ, .refl, f1, g1, q⟩ (fun k σ' H' hk h => ?_) (fun σ' H' h => ?_)
  · obtain ⟨ρ', ag, f', g', p'⟩ := h
    rw [rangeD_at hk] at p'
    exact turn_ok hg hb (U := []) (T := T) (σ0 := σ) (D := Dn) f' (g'.addI _) ag p' fun σ2 H2 ρ2 ag2 f2 g2 p2 => ⟨ρ2, ag2, f2, g2, p2⟩
  · obtain ⟨ρ', ag, f', g', p'⟩ := h
    rw [List.drop_eq_nil_of_le (by unfold rangeD; rw [List.length_map, List.length_range]; exact Nat.le_refl _)] at p'
    exact p' σ' H' ag f' g'
theorem one_of {H : Hp} {R : List Addr} {L : List (V × D)} {vs : List V} {d : D} (l : vs.length = 1) (g : Good c H R (vs.zip [d] ++ L)) : ∃ v, vs = [v] ∧ Good c H R ((v, d) :: L) := by
  match vs, l, g with
  | [v], _, g => exact ⟨v, rfl, g⟩
theorem two_of {H : Hp} {R : List Addr} {L : List (V × D)} {vs : List V} {d e : D} (l : vs.length = 2) (g : Good c H R (vs.zip [d, e] ++ L)) : ∃ v w, vs = [v, w] ∧ Good c H R ((v, d) :: (w, e) :: L) := by
  match vs, l, g with
  | [v, w], _, g => exact ⟨v, w, rfl, g⟩
theorem SOk.forR1 {W W' : List Nat} {t : TA} {g : TG} {tb : TS} {f : M (List D)} {tg : D → M Unit} {body : M Flw} (ht : TaOk c EX t f) (hg : GOk c W g tg) (hb : SOk c EX W' tb body) : SOk c EX (W ++ W') (tFor (iRng1 t) g tb) (forR1 f tg body) := fun H σ ρ T Dn ft gd p => by
  refine ht H σ ρ T _ ft gd ((bind_post.mp p).imp (fun ds ρ1 q vs H1 l f1 g1 => ?_) fun _ _ q => q σ .refl)
  match ds, l, q, g1 with
  | [.int j], l, q, g1 =>
    obtain ⟨v, ev, g2⟩ := one_of l g1
    have ei := g2.isI
    by_cases hj : inR j = true
    · simp only [hj, if_true] at q
      obtain ⟨h1, h2⟩ := inR_ok hj
      exact ⟨j, by rw [ev, ei], h1, h2, range_ok hg hb f1 g2.tail q⟩
    · simp only [hj, if_false] at q
      exact q.elim
theorem SOk.forR2 {W W' : List Nat} {t : TA} {g : TG} {tb : TS} {f : M (List D)} {tg : D → M Unit} {body : M Flw} (ht : TaOk c EX t f) (hg : GOk c W g tg) (hb : SOk c EX W' tb body) : SOk c EX (W ++ W') (tFor (iRng2 t) g tb) (forR2 f tg body) := fun H σ ρ T Dn ft gd p => by
  refine ht H σ ρ T _ ft gd ((bind_post.mp p).imp (fun ds ρ1 q vs H1 l f1 g1 => ?_) fun _ _ q => q σ .refl)
  match ds, l, q, g1 with
  | [.int i, .int j], l, q, g1 =>
    obtain ⟨v, w, ev, g2⟩ := two_of l g1
    have ei := g2.isI
    have ej := g2.tail.isI
    by_cases hj : inR i = true ∧ inR j = true
    · simp only [hj, and_self, if_true] at q
      obtain ⟨h1, h2⟩ := inR_ok hj.1
      obtain ⟨h3, h4⟩ := inR_ok hj.2
      exact ⟨i, j, by rw [ev, ei, ej], ⟨h1, h2, h3, h4⟩, range_ok hg hb f1 g2.tail.tail q⟩
    · simp only [hj, if_false] at q
      exact q.elim
end
end Mir
end
section
set_option Elab.async false
set_option linter.all false
set_option maxRecDepth 100000
set_option maxHeartbeats 2000000
/-! Mir4: comprehensions, defs and calls. -/
namespace Mir
open PySem PySem.Spec PyProof.Rows L2

def wipeD (ρ : Env) : List Nat → Env
  | [] => ρ
  | v :: vs => (wipeD ρ vs).set v none
def wipeM (vs : List Nat) : M Unit := fun ρ => .ok () (wipeD ρ vs)
def compM (vs : List Nat) (tg : D → M Unit) (tst : M Bool) (elt : M D) : List D → List D → M (List D)
  | [], acc => do
    wipeM vs
    pure acc
  | d :: ds, acc => do
    noX (tg d)
    let b ← noX tst
    if b = true then do
      let y ← noX elt
      if acc.length < sizeLine then do
        wipeM vs
        compM vs tg tst elt ds (acc ++ [y])
      else badM
    else do
      wipeM vs
      compM vs tg tst elt ds acc
theorem wipeM_post {vs : List Nat} {ρ : Env} {K : Unit → Env → Prop} {KE : Exn → Env → Prop} : OPost K KE (wipeM vs ρ) ↔ K () (wipeD ρ vs) := Iff.rfl
theorem wipeD_len (ρ : Env) : ∀ vs, (wipeD ρ vs).length = ρ.length
  | [] => rfl
  | v :: vs => by unfold wipeD; rw [List.length_set, wipeD_len ρ vs]
theorem wipeD_dead (ρ : Env) : ∀ (vs : List Nat) (i : Nat), i ∈ vs → (wipeD ρ vs).set i none = wipeD ρ vs
  | [], _, h => by cases h
  | v :: vs, i, h => by
    unfold wipeD
    by_cases e : i = v
    · subst e; rw [List.set_set]
    · have hi : i ∈ vs := by
        rcases List.mem_cons.mp h with z | z
        · exact absurd z e
        · exact z
      rw [List.set_comm _ _ (Ne.symm e), wipeD_dead ρ vs i hi]
theorem wipeD_some {ρ : Env} {i : Nat} {d : D} : ∀ {vs : List Nat}, (wipeD ρ vs)[i]? = some (some d) → ρ[i]? = some (some d) ∧ i ∉ vs
  | [], h => ⟨h, by simp⟩
  | v :: vs, h => by
    unfold wipeD at h
    by_cases hi : v = i
    · subst hi
      by_cases hv : v < (wipeD ρ vs).length
      · rw [List.getElem?_set_self hv] at h; cases h
      · rw [List.getElem?_eq_none (by simpa using hv)] at h; cases h
    · rw [List.getElem?_set_ne hi] at h
      obtain ⟨h1, h2⟩ := wipeD_some h
      exact ⟨h1, by simp only [List.mem_cons, not_or]; exact ⟨fun e => hi e.symm, h2⟩⟩
theorem wipe_out' {σ : St} {i : Nat} : ∀ {vs : List Nat}, i ∉ vs → (wipe σ vs)[i]? = σ[i]?
  | [], _ => rfl
  | v :: vs, h => by
    unfold wipe
    rw [List.getElem?_set_ne (fun e => h (by rw [e]; exact List.mem_cons_self))]
    exact wipe_out' fun z => h (List.mem_cons_of_mem _ z)
theorem wipe_in' {σ : St} {i : Nat} (hi : i < σ.length) : ∀ {vs : List Nat}, i ∈ vs → (wipe σ vs)[i]? = some none
  | [], h => by cases h
  | v :: vs, h => by
    unfold wipe
    by_cases e : v = i
    · subst e
      exact List.getElem?_set_self (by rw [wipe_length]; exact hi)
    · rw [List.getElem?_set_ne e]
      refine wipe_in' hi ?_
      rcases List.mem_cons.mp h with z | z
      · exact absurd z.symm e
      · exact z
theorem wipe_eq' {σ σ2 : St} {vs : List Nat} (l : σ2.length = σ.length) (h : ∀ (i : Nat), i ∉ vs → σ2[i]? = σ[i]?) : wipe σ2 vs = wipe σ vs := by
  refine List.ext_getElem? fun i => ?_
  by_cases z : i ∈ vs
  · by_cases hi : i < σ.length
    · rw [wipe_in' hi z, wipe_in' (by omega) z]
    · rw [List.getElem?_eq_none (by rw [wipe_length]; omega), List.getElem?_eq_none (by rw [wipe_length]; omega)]
  · rw [wipe_out' z, wipe_out' z, h i z]
theorem sl_dead {σ : St} {ρ : Env} {i : Nat} {w : Option V} (h : ρ.set i none = ρ) : sl (σ.set i w) ρ = sl σ ρ := by
  rw [← h]
  exact sl_none
theorem sl_wipe' {σ : St} {ρ : Env} : ∀ {vs : List Nat}, (∀ i ∈ vs, ρ.set i none = ρ) → sl (wipe σ vs) ρ = sl σ ρ
  | [], _ => rfl
  | v :: vs, h => by
    unfold wipe
    rw [sl_dead (h v List.mem_cons_self)]
    exact sl_wipe' fun i hi => h i (List.mem_cons_of_mem _ hi)
theorem sl_wipe {σ : St} {ρ : Env} {vs : List Nat} : sl (wipe σ vs) (wipeD ρ vs) = sl σ (wipeD ρ vs) := sl_wipe' fun i hi => wipeD_dead ρ vs i hi
theorem sl_wipe_sub {σ : St} {ρ : Env} : ∀ {vs : List Nat}, (sl σ (wipeD ρ vs)).Sublist (sl σ ρ)
  | [] => .refl _
  | v :: vs => by
    unfold wipeD
    exact sl_sub.trans sl_wipe_sub
theorem Fit.wipe {c : Cn} {σ : St} {ρ : Env} {vs : List Nat} (f : Fit c σ ρ) : Fit c (L2.wipe σ vs) (wipeD ρ vs) := by
  refine ⟨by rw [wipe_length, wipeD_len]; exact f.len, fun i d h => ?_, fun i h => ?_⟩
  · obtain ⟨h1, h2⟩ := wipeD_some h
    obtain ⟨v, k⟩ := f.has i d h1
    exact ⟨v, by rw [wipe_out' h2]; exact k⟩
  · obtain ⟨h1, h2⟩ := wipeD_some h
    obtain ⟨a, e, k⟩ := f.exn i h1
    exact ⟨a, e, by rw [wipe_out' h2]; exact k⟩
theorem Fit.unwipe {c : Cn} {σ : St} {ρ : Env} {vs : List Nat} (f : Fit c (L2.wipe σ vs) (wipeD ρ vs)) : Fit c σ (wipeD ρ vs) := by
  refine ⟨by rw [← f.len, wipe_length], fun i d h => ?_, fun i h => ?_⟩
  · obtain ⟨v, k⟩ := f.has i d h
    exact ⟨v, (wipe_some k).1⟩
  · obtain ⟨a, e, k⟩ := f.exn i h
    exact ⟨a, e, (wipe_some k).1⟩
section
variable {c : Cn} {EX : XW}
/-- one more thing at the end of an own list -/
theorem Good.push {H : Hp} {L : List (V × D)} {y v : V} {d : D} {acc : List D} (g : Good c H [] ((y, d) :: (v, .lst true acc) :: L)) :
    ∃ p vs, v = .ref p ∧ H p = some (.lst vs) ∧ vs.length = acc.length ∧ Good c (upd H p (.lst (vs ++ [y]))) [] ((v, .lst true (acc ++ [d])) :: L) := by
  obtain ⟨p, vs, e, hp, hl, g1⟩ := g.swap.openL
  refine ⟨p, vs, e, hp, hl, ?_⟩
  rw [e]
  refine Good.closeL ?_ (by rw [List.length_append, List.length_append, hl]; rfl) (.inr (by rw [hp]; trivial))
  rw [zip_append' hl]
  refine g1.perm ?_
  rw [List.append_assoc]
  exact .refl _
theorem TtOk.yes : TtOk c EX tYes (pure true) := fun H σ ρ T Q f g p => p H f g
def EXF : XW := fun _ _ _ _ => False
/-- a comprehension's turn -/
theorem cturn {vs : List Nat} {W : List Nat} {g : TG} {tt : TT} {te : TE} {tg : D → M Unit} {tst : M Bool} {elt : M D} (hg : GOk c W g tg) (hw : ∀ i ∈ W, i ∈ vs) (ht : TtOk c EXF tt tst) (he : TOk c EXF te elt)
    {H : Hp} {σ : St} {ρ : Env} {T U : List (V × D)} {v : V} {d : D} {ds acc : List D} {Da : Addr} {Nx Qd : Hp → Prop}
    (f : Fit c (wipe σ vs) ρ) (gd : Good c H [] ((v, d) :: ((.ref Da, .lst true acc) :: U ++ (T ++ sl (wipe σ vs) ρ))))
    (p : OPost (fun r ρ' => ∀ H', Fit c (wipe σ vs) ρ' → Good c H' [] ((.ref Da, .lst true r) :: (T ++ sl (wipe σ vs) ρ')) → Qd H') (fun _ _ => False) (compM vs tg tst elt (d :: ds) acc ρ))
    (nx : ∀ H' ρ' acc', Fit c (wipe σ vs) ρ' → Good c H' [] ((.ref Da, .lst true acc') :: U ++ (T ++ sl (wipe σ vs) ρ')) →
      OPost (fun r ρ' => ∀ H', Fit c (wipe σ vs) ρ' → Good c H' [] ((.ref Da, .lst true r) :: (T ++ sl (wipe σ vs) ρ')) → Qd H') (fun _ _ => False) (compM vs tg tst elt ds acc' ρ') → Nx H') :
    g v (wipe σ vs) H fun σ2 H2 => wipe σ2 vs = wipe σ vs ∧ tt σ2 H2 fun b H3 =>
      if b = true then te σ2 H3 fun y H4 => ∃ acc, H4 Da = some (.lst acc) ∧ acc.length < sizeLine ∧ Nx (upd H4 Da (.lst (acc ++ [y]))) else Nx H3 := by
  refine hg H (wipe σ vs) ρ ((.ref Da, .lst true acc) :: U ++ T) v d _ f (by rw [List.append_assoc]; exact gd) ((noX_post (bind_post.mp p)).imp (fun _ ρ1 p1 σ1 H1 a1 f1 g1 => ?_) fun _ _ z => z)
  have ew : wipe σ1 vs = wipe σ vs := by
    have e2 : wipe σ1 vs = wipe (wipe σ vs) vs := wipe_eq' a1.len fun i hi => a1.at' i fun z => hi (hw i z)
    rw [e2]
    exact wipe_eq' (wipe_length σ vs) fun i hi => wipe_out' hi
  refine ⟨ew, ht H1 σ1 ρ1 _ _ f1 g1 ((noX_post (bind_post.mp p1)).imp (fun b ρ2 p2 H2 f2 g2 => ?_) fun _ _ z => z.elim)⟩
  cases b with
  | true =>
    simp only [if_true] at p2 ⊢
    refine he H2 σ1 ρ2 _ _ f2 g2 ((noX_post (bind_post.mp p2)).imp (fun y ρ3 p3 z H3 f3 g3 => ?_) fun _ _ z => z.elim)
    by_cases hz : acc.length < sizeLine
    · rw [if_pos hz] at p3
      have p4 := wipeM_post.mp (bind_post.mp p3)
      obtain ⟨q, ws, eq, hq, hl, g4⟩ := g3.push
      cases eq
      refine ⟨ws, hq, by omega, nx _ (wipeD ρ3 vs) (acc ++ [y]) ?_ ?_ p4⟩
      · rw [← ew]; exact f3.wipe
      · have g5 : Good c (upd H3 Da (.lst (ws ++ [z]))) [] ((.ref Da, .lst true (acc ++ [y])) :: (U ++ T ++ sl σ1 ρ3)) := g4
        refine g5.sub (List.Sublist.cons_cons _ ?_)
        show (U ++ (T ++ sl (wipe σ vs) (wipeD ρ3 vs))).Sublist _
        rw [← List.append_assoc, ← ew, sl_wipe]
        exact List.Sublist.append (.refl _) sl_wipe_sub
    · rw [if_neg hz] at p3
      exact p3.elim
  | false =>
    simp only [Bool.false_eq_true, if_false] at p2 ⊢
    have p3 := wipeM_post.mp (bind_post.mp p2)
    refine nx H2 (wipeD ρ2 vs) acc ?_ ?_ p3
    · rw [← ew]; exact f2.wipe
    · have g5 : Good c H2 [] ((.ref Da, .lst true acc) :: (U ++ T ++ sl σ1 ρ2)) := g2
      refine g5.sub (List.Sublist.cons_cons _ ?_)
      show (U ++ (T ++ sl (wipe σ vs) (wipeD ρ2 vs))).Sublist _
      rw [← List.append_assoc, ← ew, sl_wipe]
      exact List.Sublist.append (.refl _) sl_wipe_sub
def lcL (vs : List Nat) (f : M D) (tg : D → M Unit) (tst : M Bool) (elt : M D) : M D := do
  let d ← f
  match d with
  | .lst _ ds => (do
    wipeM vs
    let r ← noX (compM vs tg tst elt (fzL ds) [])
    pure (.lst true r))
  | _ => badM
def lcR (vs : List Nat) (lo : Int) (n : Nat) (tg : D → M Unit) (tst : M Bool) (elt : M D) : M D := do
  wipeM vs
  let r ← noX (compM vs tg tst elt (rangeD lo n) [])
  pure (.lst true r)
def lcR1 (vs : List Nat) (f : M (List D)) (tg : D → M Unit) (tst : M Bool) (elt : M D) : M D := do
  let ds ← f
  match ds with
  | [.int j] => if inR j = true then lcR vs 0 j.toNat tg tst elt else badM
  | _ => badM
def lcR2 (vs : List Nat) (f : M (List D)) (tg : D → M Unit) (tst : M Bool) (elt : M D) : M D := do
  let ds ← f
  match ds with
  | [.int i, .int j] => if inR i = true ∧ inR j = true then lcR vs i (j - i).toNat tg tst elt else badM
  | _ => badM
/-- the last row of the rest: the compM wipes at its end -/
theorem compM_end {vs : List Nat} {tg : D → M Unit} {tst : M Bool} {elt : M D} {K : List D → Env → Prop} {acc : List D} {ρ : Env} (h : OPost K (fun _ _ => False) (compM vs tg tst elt [] acc ρ)) : K acc (wipeD ρ vs) := wipeM_post.mp (bind_post.mp h)
theorem compM_dead {vs : List Nat} {tg : D → M Unit} {tst : M Bool} {elt : M D} {KE : Exn → Env → Prop} : ∀ {ds acc : List D} {ρ : Env} {K : List D → Env → Prop}, OPost K KE (compM vs tg tst elt ds acc ρ) →
    OPost (fun r ρ' => (∀ i ∈ vs, ρ'.set i none = ρ') ∧ K r ρ') KE (compM vs tg tst elt ds acc ρ)
  | [], acc, ρ, K, h => bind_post.mpr (wipeM_post.mpr ⟨fun i hi => wipeD_dead ρ vs i hi, wipeM_post.mp (bind_post.mp h)⟩)
  | d :: ds, acc, ρ, K, h => by
    refine bind_post.mpr ((bind_post.mp h).imp (fun _ ρ1 p1 => bind_post.mpr ((bind_post.mp p1).imp (fun b ρ2 p2 => ?_) fun _ _ z => z)) fun _ _ z => z)
    cases b with
    | true =>
      simp only [if_true] at p2 ⊢
      refine bind_post.mpr ((bind_post.mp p2).imp (fun y ρ3 p3 => ?_) fun _ _ z => z)
      by_cases hz : acc.length < sizeLine
      · rw [if_pos hz] at p3 ⊢
        exact bind_post.mpr (wipeM_post.mpr (compM_dead (wipeM_post.mp (bind_post.mp p3))))
      · rw [if_neg hz] at p3
        exact p3.elim
    | false =>
      simp only [Bool.false_eq_true, if_false] at p2 ⊢
      exact bind_post.mpr (wipeM_post.mpr (compM_dead (wipeM_post.mp (bind_post.mp p2))))
theorem Fit.wipeD {c : Cn} {σ : St} {ρ : Env} (f : Fit c σ ρ) : ∀ {vs : List Nat}, Fit c σ (Mir.wipeD ρ vs)
  | [] => f
  | v :: vs => Fit.none (Fit.wipeD f)
/-- the end of a comprehension, in the def's own slots -/
theorem comp_fin {vs : List Nat} {tg : D → M Unit} {tst : M Bool} {elt : M D} {ds : List D} {σ : St} {ρ : Env} {T : List (V × D)} {Da : Addr} {Q : VK} {KE : Exn → Env → Prop}
    (h : OPost (fun d ρ' => ∀ v H', Fit c σ ρ' → Good c H' [] ((v, d) :: (T ++ sl σ ρ')) → Q v H') KE ((do let r ← noX (compM vs tg tst elt ds []); pure (.lst true r) : M D) ρ)) :
    OPost (fun r ρ' => ∀ H', Fit c (wipe σ vs) ρ' → Good c H' [] ((.ref Da, .lst true r) :: (T ++ sl (wipe σ vs) ρ')) → Q (.ref Da) H') (fun _ _ => False) (compM vs tg tst elt ds [] ρ) :=
  (compM_dead (noX_post (bind_post.mp h))).imp (fun r ρ' ⟨dd, q⟩ H' fx gx => by
    rw [sl_wipe' dd] at gx
    refine q _ H' ⟨by rw [← fx.len, wipe_length], fun i d e => ?_, fun i e => ?_⟩ gx
    · obtain ⟨v, k⟩ := fx.has i d e
      exact ⟨v, (wipe_some k).1⟩
    · obtain ⟨a, e', k⟩ := fx.exn i e
      exact ⟨a, e', (wipe_some k).1⟩) fun _ _ z => z
theorem comp_out {vs : List Nat} {tg : D → M Unit} {tst : M Bool} {elt : M D} {σ : St} {ρ : Env} {T U : List (V × D)} {Da : Addr} {acc : List D} {H : Hp} {Qd : Hp → Prop} (f : Fit c (wipe σ vs) ρ) (g : Good c H [] ((.ref Da, .lst true acc) :: U ++ (T ++ sl (wipe σ vs) ρ)))
    (p : OPost (fun r ρ' => ∀ H', Fit c (wipe σ vs) ρ' → Good c H' [] ((.ref Da, .lst true r) :: (T ++ sl (wipe σ vs) ρ')) → Qd H') (fun _ _ => False) (compM vs tg tst elt [] acc ρ)) : Qd H := by
  refine compM_end p H f.wipeD (g.sub (List.Sublist.cons_cons _ ?_))
  exact (List.Sublist.append (.refl T) sl_wipe_sub).trans (List.sublist_append_right U _)
theorem TOk.lcL {vs : List Nat} {W : List Nat} {t : TE} {g : TG} {tt : TT} {te : TE} {f : M D} {tg : D → M Unit} {tst : M Bool} {elt : M D} (hf : TOk c EX t f) (hg : GOk c W g tg) (ht : TtOk c EXF tt tst) (he : TOk c EXF te elt) (hw : ∀ i ∈ W, i ∈ vs := by decide) :
    TOk c EX (tLc (iList c.K t) g tt te vs) (lcL vs f tg tst elt) := fun H σ ρ T Q ft gd p => by
  refine hf H σ ρ T _ ft gd ((bind_post.mp p).imp (fun d ρ1 q v H1 f1 g1 => ?_) fun _ _ q => q)
  cases d with
  | lst o ds =>
    have g2 := g1.freeze
    simp only [fz] at g2
    obtain ⟨a, ws, e, hr, hl, g3⟩ := g2.readL
    refine ⟨a, e, ⟨ws, .inl hr⟩, fun Da hD => ?_⟩
    have q3 := comp_fin (Da := Da) (wipeM_post.mp (bind_post.mp q))
    refine lc_list (K := c.K) (a := a) (xs := ws) (fun k H' => ∃ ρ' acc, Fit c (wipe σ vs) ρ' ∧ Good c H' [] ((.ref Da, .lst true acc) :: ((ws.drop k).zip ((fzL ds).drop k) ++ [(v, .seq ws)]) ++ (T ++ sl (wipe σ vs) ρ')) ∧
      OPost (fun r ρ' => ∀ H', Fit c (wipe σ vs) ρ' → Good c H' [] ((.ref Da, .lst true r) :: (T ++ sl (wipe σ vs) ρ')) → Q (.ref Da) H') (fun _ _ => False) (compM vs tg tst elt ((fzL ds).drop k) acc ρ')) ⟨wipeD ρ1 vs, [], f1.wipe, ?_, q3⟩ (fun k H' _ h => ?_) (fun k x H' hx h => ?_) (fun H' h => ?_)
    · have g4 : Good c H1 [] (([] : List V).zip [] ++ ((ws.zip (fzL ds) ++ [(v, .seq ws)]) ++ (T ++ sl (wipe σ vs) (wipeD ρ1 vs)))) := by
        refine g3.sub ?_
        rw [sl_wipe]
        show ((ws.zip (fzL ds) ++ [(v, D.seq ws)]) ++ (T ++ sl σ (wipeD ρ1 vs))).Sublist _
        rw [List.append_assoc]
        refine List.Sublist.append (.refl _) ?_
        have s : (T ++ sl σ (wipeD ρ1 vs)).Sublist (T ++ sl σ ρ1) := List.Sublist.append (.refl T) sl_wipe_sub
        exact s.cons_cons _
      exact g4.newL rfl hD (by simp)
    · obtain ⟨ρ', acc, _, g, _⟩ := h
      have g5 : Good c H' [] ((v, .seq ws) :: (T ++ sl (wipe σ vs) ρ')) := by
        refine g.sub ?_
        show ((v, D.seq ws) :: (T ++ sl (wipe σ vs) ρ')).Sublist ((V.ref Da, D.lst true acc) :: (((ws.drop k).zip ((fzL ds).drop k) ++ [(v, D.seq ws)]) ++ (T ++ sl (wipe σ vs) ρ')))
        rw [List.append_assoc]
        exact (List.sublist_append_right _ _).trans (List.sublist_cons_self _ _)
      obtain ⟨a', e', s⟩ := g5.seqAt
      rw [e] at e'
      cases e'
      exact s
    · obtain ⟨ρ', acc, f', g', p'⟩ := h
      have hk : k < (fzL ds).length := by rw [← hl]; exact ltE hx
      have hd := List.getElem?_eq_getElem hk
      rw [drop_at hd] at p' g'
      rw [drop_at hx] at g'
      refine cturn (U := (ws.drop (k + 1)).zip ((fzL ds).drop (k + 1)) ++ [(v, .seq ws)]) (T := T) hg hw ht he f' ?_ p' fun H2 ρ2 acc2 f2 g2 p2 => ⟨ρ2, acc2, f2, g2, p2⟩
      exact g'.swap
    · obtain ⟨ρ', acc, f', g', p'⟩ := h
      rw [List.drop_eq_nil_of_le (by omega)] at p'
      exact comp_out f' g' p'
  | _ => exact q.elim
theorem comp_range {vs : List Nat} {W : List Nat} {g : TG} {tt : TT} {te : TE} {tg : D → M Unit} {tst : M Bool} {elt : M D} (hg : GOk c W g tg) (hw : ∀ i ∈ W, i ∈ vs) (ht : TtOk c EXF tt tst) (he : TOk c EXF te elt) {H : Hp} {σ : St} {ρ : Env} {T : List (V × D)} {Q : VK} {KE : Exn → Env → Prop} {lo : Int} {n : Nat} {Da : Addr}
    (f1 : Fit c σ ρ) (g1 : Good c H [] (T ++ sl σ ρ)) (hD : H Da = none) (q : OPost (fun d ρ' => ∀ v H', Fit c σ ρ' → Good c H' [] ((v, d) :: (T ++ sl σ ρ')) → Q v H') KE (lcR vs lo n tg tst elt ρ)) :
    ∃ W : Nat → Nat → Hp → Prop, (∃ m, W 0 m (upd H Da (.lst []))) ∧ ∀ i m H, W i m H →
      ((Itr lo n).stop i H ∧ Q (.ref Da) H) ∨ ((Itr lo n).go i H ∧ ∃ Nx : Hp → Prop, (∀ H', Nx H' → ∃ m', m' < m ∧ W (i + 1) m' H') ∧ ∀ x H', (Itr lo n).yld i H x H' → g x (wipe σ vs) H' fun σ2 H2 => wipe σ2 vs = wipe σ vs ∧ tt σ2 H2 fun b H3 =>
        if b = true then te σ2 H3 fun y H4 => ∃ acc, H4 Da = some (.lst acc) ∧ acc.length < sizeLine ∧ Nx (upd H4 Da (.lst (acc ++ [y]))) else Nx H3) := by
  have q3 := comp_fin (Da := Da) (wipeM_post.mp (bind_post.mp q))
  refine lc_range (lo := lo) (n := n) (Qd := fun H => Q (.ref Da) H) (fun k H' => ∃ ρ' acc, Fit c (wipe σ vs) ρ' ∧ Good c H' [] ((.ref Da, .lst true acc) :: [] ++ (T ++ sl (wipe σ vs) ρ')) ∧
    OPost (fun r ρ' => ∀ H', Fit c (wipe σ vs) ρ' → Good c H' [] ((.ref Da, .lst true r) :: (T ++ sl (wipe σ vs) ρ')) → Q (.ref Da) H') (fun _ _ => False) (compM vs tg tst elt ((rangeD lo n).drop k) acc ρ')) ⟨wipeD ρ vs, [], f1.wipe, ?_, q3⟩ (fun k H' hk h => ?_) (fun H' h => ?_)
  · have g4 : Good c H [] (([] : List V).zip [] ++ (T ++ sl (wipe σ vs) (wipeD ρ vs))) := by
      refine g1.sub ?_
      rw [sl_wipe]
      show (T ++ sl σ (wipeD ρ vs)).Sublist _
      exact List.Sublist.append (.refl _) sl_wipe_sub
    exact g4.newL rfl hD (by simp)
  · obtain ⟨ρ', acc, f', g', p'⟩ := h
    rw [rangeD_at hk] at p'
    exact cturn (U := []) (T := T) hg hw ht he f' (g'.addI _) p' fun H2 ρ2 acc2 f2 g2 p2 => ⟨ρ2, acc2, f2, g2, p2⟩
  · obtain ⟨ρ', acc, f', g', p'⟩ := h
    rw [List.drop_eq_nil_of_le (by unfold rangeD; rw [List.length_map, List.length_range]; exact Nat.le_refl _)] at p'
    exact comp_out (U := []) f' g' p'
theorem TOk.lcR1 {vs : List Nat} {W : List Nat} {t : TA} {g : TG} {tt : TT} {te : TE} {f : M (List D)} {tg : D → M Unit} {tst : M Bool} {elt : M D} (hf : TaOk c EX t f) (hg : GOk c W g tg) (ht : TtOk c EXF tt tst) (he : TOk c EXF te elt) (hw : ∀ i ∈ W, i ∈ vs := by decide) :
    TOk c EX (tLc (iRng1 t) g tt te vs) (lcR1 vs f tg tst elt) := fun H σ ρ T Q ft gd p => by
  refine hf H σ ρ T _ ft gd ((bind_post.mp p).imp (fun ds ρ1 q ws H1 l f1 g1 => ?_) fun _ _ q => q)
  match ds, l, q, g1 with
  | [.int j], l, q, g1 =>
    obtain ⟨v, ev, g2⟩ := one_of l g1
    have ei := g2.isI
    by_cases hj : inR j = true
    · simp only [hj, if_true] at q
      obtain ⟨h1, h2⟩ := inR_ok hj
      exact ⟨j, by rw [ev, ei], h1, h2, fun Da hD => comp_range hg hw ht he f1 g2.tail hD q⟩
    · simp only [hj, if_false] at q
      exact q.elim
theorem TOk.lcR2 {vs : List Nat} {W : List Nat} {t : TA} {g : TG} {tt : TT} {te : TE} {f : M (List D)} {tg : D → M Unit} {tst : M Bool} {elt : M D} (hf : TaOk c EX t f) (hg : GOk c W g tg) (ht : TtOk c EXF tt tst) (he : TOk c EXF te elt) (hw : ∀ i ∈ W, i ∈ vs := by decide) :
    TOk c EX (tLc (iRng2 t) g tt te vs) (lcR2 vs f tg tst elt) := fun H σ ρ T Q ft gd p => by
  refine hf H σ ρ T _ ft gd ((bind_post.mp p).imp (fun ds ρ1 q ws H1 l f1 g1 => ?_) fun _ _ q => q)
  match ds, l, q, g1 with
  | [.int i, .int j], l, q, g1 =>
    obtain ⟨v, w, ev, g2⟩ := two_of l g1
    have ei := g2.isI
    have ej := g2.tail.isI
    by_cases hj : inR i = true ∧ inR j = true
    · simp only [hj, and_self, if_true] at q
      obtain ⟨h1, h2⟩ := inR_ok hj.1
      obtain ⟨h3, h4⟩ := inR_ok hj.2
      exact ⟨i, j, by rw [ev, ei, ej], ⟨h1, h2, h3, h4⟩, fun Da hD => comp_range hg hw ht he f1 g2.tail.tail hD q⟩
    · simp only [hj, if_false] at q
      exact q.elim
end
end Mir
end
section
set_option Elab.async false
set_option linter.all false
set_option maxRecDepth 100000
set_option maxHeartbeats 2000000
/-! Mir5: defs and calls. -/
namespace Mir
open PySem PySem.Spec PyProof.Rows L2

inductive FRes where
  | ok (d : D) (outs : List D)
  | err (x : Exn)
  | bad
/-- what is lent: the places that ln marks -/
def lz : List Bool → List V → List D → List (V × D)
  | true :: ln, v :: vs, d :: ds => (v, d) :: lz ln vs ds
  | false :: ln, _ :: vs, _ :: ds => lz ln vs ds
  | _, _, _ => []
def FRPost (c : Cn) (T : List (V × D)) (ln : List Bool) (vs : List V) (Q : VK) (E : XK) : FRes → Prop
  | .ok d outs => ∀ v H, Good c H [] ((v, d) :: (lz ln vs outs ++ T)) → Q v H
  | .err x => ∀ cls dd H, ExnAt c H x cls dd T → E cls dd H
  | .bad => False
/-- a def keeps to f; ln marks the parameters whose things it may change and hands back -/
def spF (c : Cn) (ln : List Bool) (f : List D → FRes) : Sp := fun vs H Q E => ∃ ds T, vs.length = ds.length ∧ ln.length = ds.length ∧ Good c H [] (vs.zip ds ++ T) ∧ FRPost c T ln vs Q E (f ds)
theorem spF_len {c : Cn} {ln : List Bool} {f : List D → FRes} {vs : List V} {H : Hp} {Q : VK} {E : XK} (h : spF c ln f vs H Q E) : vs.length = ln.length := by
  obtain ⟨ds, T, h1, h2, _⟩ := h
  omega

/-! ### arguments -/
def Opn.isSlot : Opn → Bool
  | .tmp _ => false
  | .slot _ => true
def AgOk (c : Cn) (EX : XW) : TA → List Opn → Prop
  | t, [] => t = tNil
  | t, o :: as => ∃ te tr, t = tCons te tr ∧ OpnOk c EX te o ∧ AgOk c EX tr as
theorem AgOk.nil {c : Cn} {EX : XW} : AgOk c EX tNil [] := rfl
theorem AgOk.cons {c : Cn} {EX : XW} {te : TE} {tr : TA} {o : Opn} {as : List Opn} (h : OpnOk c EX te o) (k : AgOk c EX tr as) : AgOk c EX (tCons te tr) (o :: as) := ⟨te, tr, rfl, h, k⟩
def evArgs : List Opn → M (List (Option D))
  | [] => pure []
  | .tmp f :: as => do
    let d ← f
    let r ← evArgs as
    pure (some d :: r)
  | .slot i :: as => do
    let _ ← peek i
    let r ← evArgs as
    pure (none :: r)
def lendOut : List Opn → List (Option D) → M (List D)
  | [], [] => pure []
  | .tmp _ :: as, some d :: os => do
    let r ← lendOut as os
    pure (d :: r)
  | .slot i :: as, none :: os => do
    let d ← peek i
    setv i none
    let r ← lendOut as os
    pure (d :: r)
  | _, _ => badM
def lendIn : List Opn → List D → M Unit
  | [], _ => pure ()
  | .tmp _ :: as, _ :: ds => lendIn as ds
  | .slot i :: as, d :: ds => do
    stv i d
    lendIn as ds
  | _, _ => badM
def raiseM {α : Type} (x : Exn) : M α := fun ρ => .err x ρ
def callM (f : List D → FRes) (as : List Opn) : M D := do
  let os ← evArgs as
  let ds ← lendOut as os
  match f ds with
  | .ok d outs => (do
    noX (lendIn as outs)
    pure d)
  | .err x => raiseM x
  | .bad => badM
def SA (σ : St) : List Opn → List V → Prop
  | [], vs => vs = []
  | .tmp _ :: as, vs => ∃ v r, vs = v :: r ∧ SA σ as r
  | .slot i :: as, vs => ∃ v r, vs = v :: r ∧ σ[i]? = some (some v) ∧ SA σ as r
def pz : List V → List (Option D) → List (V × D)
  | v :: vs, some d :: os => (v, d) :: pz vs os
  | _ :: vs, none :: os => pz vs os
  | _, _ => []
section
variable {c : Cn} {EX : XW}
theorem args_ok : ∀ {as : List Opn} {t : TA}, AgOk c EX t as → ∀ (H : Hp) (σ : St) (ρ : Env) (T : List (V × D)) (Q : List V → Hp → Prop), Fit c σ ρ → Good c H [] (T ++ sl σ ρ) →
    OPost (fun os ρ' => ∀ vs H', SA σ as vs → Fit c σ ρ' → Good c H' [] (pz vs os ++ (T ++ sl σ ρ')) → Q vs H') (XPost c EX T σ) (evArgs as ρ) → t σ H Q
  | [], t, h, H, σ, ρ, T, Q, f, g, p => by
    have e : t = tNil := h
    subst e
    exact p [] H rfl f g
  | .tmp m :: as, t, h, H, σ, ρ, T, Q, f, g, p => by
    obtain ⟨te, tr, rfl, h1, h2⟩ := h
    refine h1 H σ ρ T _ f g ((bind_post.mp p).imp (fun d ρ1 q v H1 f1 g1 => ?_) fun _ _ q => q)
    refine args_ok h2 H1 σ ρ1 ((v, d) :: T) _ f1 g1 ((bind_post.mp q).imp (fun os ρ2 q2 vs H2 s f2 g2 => ?_) fun _ _ q => q.more)
    exact q2 (v :: vs) H2 ⟨v, vs, rfl, s⟩ f2 (g2.perm List.perm_middle)
  | .slot i :: as, t, h, H, σ, ρ, T, Q, f, g, p => by
    obtain ⟨te, tr, rfl, h1, h2⟩ := h
    have e1 : te = tVar i := h1
    subst e1
    obtain ⟨a, e, q⟩ := peek_post.mp (bind_post.mp p)
    obtain ⟨v, k⟩ := f.has i a e
    refine ⟨v, k, ?_⟩
    refine args_ok h2 H σ ρ T _ f g ((bind_post.mp q).imp (fun os ρ2 q2 vs H2 s f2 g2 => ?_) fun _ _ q => q)
    exact q2 (v :: vs) H2 ⟨v, vs, rfl, k, s⟩ f2 g2
theorem lendOut_ok : ∀ {as : List Opn} {os : List (Option D)} {vs : List V} {H : Hp} {σ : St} {ρ : Env} {T : List (V × D)} {K : List D → Env → Prop} {KE : Exn → Env → Prop}, SA σ as vs → Fit c σ ρ → Good c H [] (pz vs os ++ (T ++ sl σ ρ)) →
    OPost K KE (lendOut as os ρ) → ∃ ds ρ', K ds ρ' ∧ vs.length = ds.length ∧ ds.length = as.length ∧ Fit c σ ρ' ∧ Good c H [] (vs.zip ds ++ (T ++ sl σ ρ'))
  | [], [], vs, H, σ, ρ, T, K, KE, s, f, g, p => by
    have e : vs = [] := s
    subst e
    exact ⟨[], ρ, p, rfl, rfl, f, g⟩
  | [], _ :: _, _, _, _, _, _, _, _, _, _, _, p => p.elim
  | .tmp m :: as, [], _, _, _, _, _, _, _, _, _, _, p => p.elim
  | .tmp m :: as, none :: os, _, _, _, _, _, _, _, _, _, _, p => p.elim
  | .slot i :: as, [], _, _, _, _, _, _, _, _, _, _, p => p.elim
  | .slot i :: as, some _ :: os, _, _, _, _, _, _, _, _, _, _, p => p.elim
  | .tmp m :: as, some d :: os, vs, H, σ, ρ, T, K, KE, s, f, g, p => by
    obtain ⟨v, r, rfl, s'⟩ := s
    have g1 : Good c H [] (pz r os ++ ((v, d) :: T ++ sl σ ρ)) := g.perm List.perm_middle.symm
    obtain ⟨ds, ρ', k, l1, l2, f', g'⟩ := lendOut_ok s' f g1 (bind_post.mp p)
    exact ⟨d :: ds, ρ', k, by rw [List.length_cons, List.length_cons, l1], by rw [List.length_cons, List.length_cons, l2], f', g'.perm List.perm_middle⟩
  | .slot i :: as, none :: os, vs, H, σ, ρ, T, K, KE, s, f, g, p => by
    obtain ⟨v, r, rfl, k0, s'⟩ := s
    obtain ⟨d, e, p1⟩ := peek_post.mp (bind_post.mp p)
    have p2 := bind_post.mp p1
    rw [setv_post] at p2
    have g0 : Good c H [] ((pz r os ++ T) ++ sl σ ρ) := by rw [List.append_assoc]; exact g
    have g1 : Good c H [] (pz r os ++ ((v, d) :: T ++ sl σ (ρ.set i none))) := by
      have q := slot_out g0 e k0
      rw [List.append_assoc] at q
      exact q.perm List.perm_middle.symm
    obtain ⟨ds, ρ', k, l1, l2, f', g'⟩ := lendOut_ok s' f.none g1 (bind_post.mp p2)
    exact ⟨d :: ds, ρ', k, by rw [List.length_cons, List.length_cons, l1], by rw [List.length_cons, List.length_cons, l2], f', g'.perm List.perm_middle⟩
theorem lendIn_ok : ∀ {as : List Opn} {outs : List D} {vs : List V} {H : Hp} {σ : St} {ρ : Env} {T : List (V × D)} {K : Unit → Env → Prop} {KE : Exn → Env → Prop}, SA σ as vs → Fit c σ ρ → Good c H [] (lz (as.map Opn.isSlot) vs outs ++ (T ++ sl σ ρ)) →
    OPost K KE (lendIn as outs ρ) → ∃ ρ', K () ρ' ∧ Fit c σ ρ' ∧ Good c H [] (T ++ sl σ ρ')
  | [], outs, vs, H, σ, ρ, T, K, KE, s, f, g, p => ⟨ρ, p, f, g⟩
  | .tmp _ :: as, [], _, _, _, _, _, _, _, _, _, _, p => p.elim
  | .slot _ :: as, [], _, _, _, _, _, _, _, _, _, _, p => p.elim
  | .tmp _ :: as, d :: outs, vs, H, σ, ρ, T, K, KE, s, f, g, p => by
    obtain ⟨v, r, rfl, s'⟩ := s
    exact lendIn_ok s' f g p
  | .slot i :: as, d :: outs, vs, H, σ, ρ, T, K, KE, s, f, g, p => by
    obtain ⟨v, r, rfl, k0, s'⟩ := s
    obtain ⟨hi, hx, p1⟩ := stv_post (bind_post.mp p)
    have g0 : Good c H [] ((v, d) :: ((lz (as.map Opn.isSlot) r outs ++ T) ++ sl σ ρ)) := by rw [List.append_assoc]; exact g
    have g1 : Good c H [] ((v, d) :: ((lz (as.map Opn.isSlot) r outs ++ T) ++ sl σ (ρ.set i none))) := g0.sub (List.Sublist.cons_cons _ (List.Sublist.append (.refl _) sl_sub))
    have g2 := slot_in g1 hi k0
    rw [List.append_assoc] at g2
    exact lendIn_ok s' (f.put k0 hx) g2 p1
def okLn : List Bool → List Bool → Bool
  | [], [] => true
  | s :: ss, l :: ls => (!s || l) && okLn ss ls
  | _, _ => false
theorem okLn_len : ∀ {ss ls : List Bool}, okLn ss ls = true → ss.length = ls.length
  | [], [], _ => rfl
  | [], _ :: _, h => by cases h
  | _ :: _, [], h => by cases h
  | s :: ss, l :: ls, h => by
    simp only [okLn, Bool.and_eq_true] at h
    rw [List.length_cons, List.length_cons, okLn_len h.2]
theorem lz_sub : ∀ {ss ls : List Bool} {vs : List V} {ds : List D}, okLn ss ls = true → (lz ss vs ds).Sublist (lz ls vs ds)
  | [], [], _, _, _ => .refl _
  | [], _ :: _, _, _, h => by cases h
  | _ :: _, [], _, _, h => by cases h
  | s :: ss, l :: ls, [], ds, h => by
    have e : lz (s :: ss) [] ds = [] := by cases s <;> (unfold lz; rfl)
    rw [e]; exact List.nil_sublist _
  | s :: ss, l :: ls, v :: vs, [], h => by
    have e : lz (s :: ss) (v :: vs) [] = [] := by cases s <;> (unfold lz; rfl)
    rw [e]; exact List.nil_sublist _
  | s :: ss, l :: ls, v :: vs, d :: ds, h => by
    simp only [okLn, Bool.and_eq_true] at h
    have ih := lz_sub (vs := vs) (ds := ds) h.2
    cases s with
    | true =>
      cases l with
      | true => exact ih.cons_cons _
      | false => cases h.1
    | false =>
      cases l with
      | true => exact ih.trans (List.sublist_cons_self _ _)
      | false => exact ih
theorem TOk.call {ln : List Bool} {f : List D → FRes} {t : TA} {as : List Opn} (h : AgOk c EX t as) (hl : okLn (as.map Opn.isSlot) ln = true := by rfl) : TOk c EX (tCallS (spF c ln f) EX t) (callM f as) := fun H σ ρ T Q ft gd p => by
  refine args_ok h H σ ρ T _ ft gd ((bind_post.mp p).imp (fun os ρ1 q vs H1 s f1 g1 => ?_) fun _ _ q => q)
  obtain ⟨ds, ρ2, q2, l1, l2, f2, g2⟩ := lendOut_ok s f1 g1 (bind_post.mp q)
  refine ⟨ds, T ++ sl σ ρ2, l1, by rw [← okLn_len hl, List.length_map, l2], g2, ?_⟩
  cases e : f ds with
  | ok d outs =>
    simp only [e] at q2
    intro v H2 g3
    have q3 := noX_post (bind_post.mp q2)
    have g4 : Good c H2 [] (lz (as.map Opn.isSlot) vs outs ++ ((v, d) :: T ++ sl σ ρ2)) := (g3.perm List.perm_middle.symm).sub (List.Sublist.append (lz_sub hl) (.refl _))
    obtain ⟨ρ3, k, f3, g5⟩ := lendIn_ok s f2 g4 q3
    exact k v H2 f3 g5
  | err x =>
    simp only [e] at q2
    exact fun cls dd H2 a => q2 cls dd H2 f2 a
  | bad =>
    simp only [e] at q2
    exact q2.elim

/-! ### a def -/
def outsOf : List Bool → Env → Option (List D)
  | [], _ => some []
  | true :: ln, some d :: ρ => (outsOf ln ρ).map (d :: ·)
  | false :: ln, _ :: ρ => (outsOf ln ρ).map (.non :: ·)
  | _, _ => none
def envOf (m : Nat) (ds : List D) : Env := ds.map some ++ List.replicate (m - ds.length) none
def finF (ln : List Bool) : Out Flw → FRes
  | .ok (.rt d) ρ => (match outsOf ln ρ with
    | some outs => .ok d outs
    | none => .bad)
  | .ok .nx ρ => (match outsOf ln ρ with
    | some outs => .ok .non outs
    | none => .bad)
  | .ok _ _ => .bad
  | .err x _ => .err x
  | .bad => .bad
def defF (m : Nat) (ln : List Bool) (g : M Flw) (ds : List D) : FRes := if ln.length = ds.length ∧ (ds.any isx) = false then finF ln (g (envOf m ds)) else .bad
/-- a def that is handed the exception that a suite holds, as its first thing -/
def defX (m : Nat) (ln : List Bool) (g : M Flw) (ds : List D) : FRes := if ln.length = ds.length ∧ isx (ds.headD .non) = true ∧ (ds.tail.any isx) = false then finF ln (g (envOf m ds)) else .bad
theorem sl_start : ∀ {vs : List V} {ds : List D} {a b : Nat}, vs.length = ds.length → sl (vs.map some ++ List.replicate a none) (ds.map some ++ List.replicate b none) = vs.zip ds
  | [], [], a, b, _ => by
    show sl (List.replicate a none) (List.replicate b none) = []
    induction a generalizing b with
    | zero => rfl
    | succ a ih =>
      cases b with
      | zero => exact sl_nil _
      | succ b => exact ih b
  | [], _ :: _, _, _, h => by cases h
  | _ :: _, [], _, _, h => by cases h
  | v :: vs, d :: ds, a, b, h => by
    show (v, d) :: sl (vs.map some ++ List.replicate a none) (ds.map some ++ List.replicate b none) = (v, d) :: vs.zip ds
    rw [sl_start (Nat.succ.inj h)]
theorem envOf_at {m : Nat} {ds : List D} {i : Nat} {d : D} (e : (envOf m ds)[i]? = some (some d)) : ds[i]? = some d := by
  unfold envOf at e
  by_cases hi : i < ds.length
  · rw [List.getElem?_append_left (by simpa using hi), List.getElem?_map, List.getElem?_eq_getElem hi] at e
    rw [List.getElem?_eq_getElem hi]
    exact Option.some.inj e
  · rw [List.getElem?_append_right (by simpa using hi), List.getElem?_replicate] at e
    split at e <;> cases e
theorem start_at {N : List Str} {vs : List V} {i : Nat} {v : V} (h : vs[i]? = some v) : (L2.start N vs)[i]? = some (some v) := by
  have hv : i < vs.length := ltE h
  unfold L2.start
  rw [List.getElem?_append_left (by simpa using hv), List.getElem?_map, h]
  rfl
theorem fit_startX {c : Cn} {N : List Str} {vs : List V} {ds : List D} (h : vs.length = ds.length) (hx : ∀ i : Nat, ds[i]? = some D.exn → ∃ a, c.ea = some a ∧ vs[i]? = some (V.ref a)) : Fit c (L2.start N vs) (envOf N.length ds) := by
  refine ⟨by unfold L2.start envOf; simp only [List.length_append, List.length_map, List.length_replicate]; omega, fun i d e => ?_, fun i e => ?_⟩
  · have hi := ltE (envOf_at e)
    exact ⟨vs[i]'(by omega), start_at (List.getElem?_eq_getElem (by omega))⟩
  · obtain ⟨a, e1, e2⟩ := hx i (envOf_at e)
    exact ⟨a, e1, start_at e2⟩
theorem fit_start {c : Cn} {N : List Str} {vs : List V} {ds : List D} (h : vs.length = ds.length) (hx : (ds.any isx) = false) : Fit c (L2.start N vs) (envOf N.length ds) := fit_startX h fun i e => by
  have := List.any_eq_false.mp hx _ (List.mem_of_getElem? e)
  exact absurd rfl this
theorem outs_sub : ∀ {ln : List Bool} {vs : List V} {outs : List D} {σ : St} {ρ : Env}, outsOf ln ρ = some outs → (∀ (i : Nat), ln[i]? = some true → ∃ v, vs[i]? = some v ∧ σ[i]? = some (some v)) → σ.length = ρ.length → (lz ln vs outs).Sublist (sl σ ρ)
  | [], vs, outs, σ, ρ, _, _, _ => by
    have e : lz [] vs outs = [] := by unfold lz; rfl
    rw [e]
    exact List.nil_sublist _
  | true :: ln, vs, outs, σ, [], e, _, _ => by cases e
  | true :: ln, vs, outs, σ, none :: ρ, e, _, _ => by cases e
  | false :: ln, vs, outs, σ, [], e, _, _ => by cases e
  | true :: ln, vs, outs, σ, some d :: ρ, e, h, l => by
    simp only [outsOf] at e
    cases q : outsOf ln ρ with
    | none => rw [q] at e; cases e
    | some os =>
      rw [q] at e
      cases e
      obtain ⟨v, h1, h2⟩ := h 0 rfl
      match vs, σ, h1, h2, l, h with
      | v' :: vs, s :: σ, h1, h2, l, h =>
        simp at h1 h2
        subst h1 h2
        show ((v', d) :: lz ln vs os).Sublist ((v', d) :: sl σ ρ)
        exact (outs_sub q (fun i hi => by simpa using h (i + 1) (by simpa using hi)) (Nat.succ.inj l)).cons_cons _
  | false :: ln, vs, outs, σ, r :: ρ, e, h, l => by
    simp only [outsOf] at e
    cases q : outsOf ln ρ with
    | none => rw [q] at e; cases e
    | some os =>
      rw [q] at e
      cases e
      match σ, l, h with
      | s :: σ, l, h =>
        have sub : (sl σ ρ).Sublist (sl (s :: σ) (r :: ρ)) := by
          cases s with
          | none => cases r <;> exact .refl _
          | some u =>
            cases r with
            | none => exact .refl _
            | some e => exact List.sublist_cons_self (u, e) (sl σ ρ)
        match vs, h with
        | [], h =>
          have e : lz (false :: ln) [] (D.non :: os) = [] := by unfold lz; rfl
          rw [e]
          exact List.nil_sublist _
        | v :: vs, h =>
          show (lz ln vs os).Sublist _
          exact (outs_sub q (fun i hi => by simpa using h (i + 1) (by simpa using hi)) (Nat.succ.inj l)).trans sub
theorem body_core {W : List Nat} {ln : List Bool} {t : TS} {g : M Flw} {N : List Str} {vs : List V} {ds : List D} {T : List (V × D)} {H : Hp} {Q : VK} {E : XK} (h : SOk c (fun _ => E) W t g) (hw : ∀ (i : Nat), ln[i]? = some true → i ∉ W)
    (l1 : vs.length = ds.length) (l2 : ln.length = ds.length) (ft : Fit c (L2.start N vs) (envOf N.length ds)) (g0 : Good c H [] (T ++ sl (L2.start N vs) (envOf N.length ds))) (p : FRPost c T ln vs Q E (finF ln (g (envOf N.length ds)))) : t { nx := fun _ H' => Q .non H', rt := Q } (L2.start N vs) H := by
  refine h H (L2.start N vs) (envOf N.length ds) T _ ft g0 ?_
  have back : ∀ {σ' : St} {ρ' : Env} {outs : List D} {H' : Hp} {v : V} {d : D}, outsOf ln ρ' = some outs → Agr W (L2.start N vs) σ' → Fit c σ' ρ' → Good c H' [] ((v, d) :: (T ++ sl σ' ρ')) → Good c H' [] ((v, d) :: (lz ln vs outs ++ T)) := fun {σ' ρ' outs H' v d} eo a f' g' => by
    have s : (lz ln vs outs).Sublist (sl σ' ρ') := outs_sub eo (fun i hi => by
      have hlt : i < ln.length := ltE hi
      have hv : i < vs.length := by omega
      refine ⟨vs[i], List.getElem?_eq_getElem hv, ?_⟩
      rw [a.at' i (hw i hi)]
      unfold L2.start
      rw [List.getElem?_append_left (by simpa using hv), List.getElem?_map, List.getElem?_eq_getElem hv]
      rfl) f'.len
    have g1 : Good c H' [] ((v, d) :: (T ++ lz ln vs outs)) := g'.sub (List.Sublist.cons_cons _ (List.Sublist.append (.refl T) s))
    exact g1.perm (List.Perm.cons _ List.perm_append_comm)
  cases e : g (envOf N.length ds) with
  | ok fl ρ' =>
    rw [e] at p
    cases fl with
    | nx =>
      simp only [finF] at p
      cases eo : outsOf ln ρ' with
      | none => rw [eo] at p; exact p.elim
      | some outs =>
        rw [eo] at p
        exact fun σ' H' a f' g' => p .non H' (back eo a f' g'.addN)
    | rt d =>
      simp only [finF] at p
      cases eo : outsOf ln ρ' with
      | none => rw [eo] at p; exact p.elim
      | some outs =>
        rw [eo] at p
        exact fun v σ' H' a f' g' => p v H' (back eo a f' g')
    | bk => exact p.elim
    | ct => exact p.elim
  | err x ρ' =>
    rw [e] at p
    exact fun σ' a cls dd H' f' ax => p cls dd H' (ax.sub (List.sublist_append_left T _))
  | bad =>
    rw [e] at p
    exact p.elim
/-- THE RULE: a def's body keeps to g, so the def keeps to defF .. g -/
theorem body_ok {W : List Nat} {ln : List Bool} {t : TS} {g : M Flw} {N : List Str} {vs : List V} {H : Hp} {Q : VK} {E : XK} (h : SOk c (fun _ => E) W t g) (hw : ∀ (i : Nat), ln[i]? = some true → i ∉ W)
    (sp : spF c ln (defF N.length ln g) vs H Q E) : t { nx := fun _ H' => Q .non H', rt := Q } (L2.start N vs) H := by
  obtain ⟨ds, T, l1, l2, gd, p⟩ := sp
  unfold defF at p
  by_cases hc : ln.length = ds.length ∧ (ds.any isx) = false
  rotate_left
  · rw [if_neg hc] at p
    exact p.elim
  rw [if_pos hc] at p
  have ft : Fit c (L2.start N vs) (envOf N.length ds) := fit_start l1 hc.2
  have es : sl (L2.start N vs) (envOf N.length ds) = vs.zip ds := sl_start l1
  have g0 : Good c H [] (T ++ sl (L2.start N vs) (envOf N.length ds)) := by
    rw [es]
    exact gd.perm List.perm_append_comm
  exact body_core h hw l1 l2 ft g0 p
end
end Mir
end
section
set_option Elab.async false
set_option linter.all false
set_option maxRecDepth 100000
set_option maxHeartbeats 2000000
/-! Mir6: defs by name; what else a program uses. -/
namespace Mir
open PySem PySem.Spec PyProof.Rows L2

/-! ### defs by name -/
/-- where a def of the text stands -/
structure Lk (K : PySem.W.Frag) (mg : Str → Option Value) (x : Str) (st : Stmt) (ps : List Str) : Prop where
  ex : ∃ f fd, Fun K x x st f fd ∧ Binds K fd ps [] ∧ mg x = some (.ref f)
/-- a def that keeps its promise, by name -/
structure DefAt (P : Program) (w : World) (K : PySem.W.Frag) (mg : Str → Option Value) (base : Heap) (k : Nat) (x : Str) (ps : List Str) (sp : Sp) : Prop where
  ex : ∃ f fd, mg x = some (.ref f) ∧ PySem.W.keepIn K (.ref f) = true ∧ Binds K fd ps [] ∧ FnOk P w K mg base (L2N.CX P w) k f fd ps sp ∧ ∃ st, Fun K x x st f fd
def lnOk (ln : List Bool) (W : List Nat) : Bool := (List.range ln.length).all fun i => !(ln.getD i false) || !(W.contains i)
theorem lnOk_ok {ln : List Bool} {W : List Nat} (h : lnOk ln W = true) : ∀ (i : Nat), ln[i]? = some true → i ∉ W := fun i hi hm => by
  unfold lnOk at h
  have q := List.all_eq_true.mp h i (List.mem_range.mpr (ltE hi))
  rw [List.getD_eq_getElem?_getD, hi] at q
  simp [hm] at q
section
variable {P : Program} {w : World} {K : PySem.W.Frag} {mg : Str → Option Value} {base : Heap} {c : Cn}
theorem def_mk {x : Str} {st : Stmt} {N ps : List Str} {ln : List Bool} {g : M Flw} {k : Nat} (L : Lk K mg x st ps) (S : FnScope N ps (defScope st)) (hl : ln.length = ps.length)
    (hbody : ∀ (f : Addr) (cdv : Value) (A : Around) (outer : List PySem.Env) (s : Shared) (H : Hp) (E : XK), Room k (A.deeper (envOfC x (defScope st) s.heap.objs.size f cdv)) →
      ∃ t W, PSs (cxOf (L2N.CX P w) P w K mg base N x (defScope st) f cdv A outer s H E) (defBody st) t ∧ SOk c (fun _ => E) W t g ∧ lnOk ln W = true) :
    DefAt P w K mg base (k + 1) x ps (spF c ln (defF N.length ln g)) := by
  obtain ⟨f, fd, F, b, m⟩ := L.ex
  obtain ⟨oc, od, kV, doc, pm, an, cdv, ct, osl, rfl, lk, hcd⟩ := F.ex
  refine ⟨f, _, m, F.kp, b, fn_of lk hcd S (fun vs H Q E h => (spF_len h).trans hl) fun A outer s H vs Q E hr sp => ?_, st, F⟩
  obtain ⟨t, W, hp, hs, hw⟩ := hbody f cdv A outer s H E hr
  exact ⟨t, hp, body_ok hs (lnOk_ok hw) sp⟩
/-- the tactic's shorter way: the derivation, then its meaning -/
theorem passF {X : Cx} (σ : St) : PassesAt (L2N.CX X.prog X.w) X σ (EXF σ) := fun _ _ _ _ _ _ h => by
  obtain ⟨_, _, _, _, _, _, _, _, _, _, _, _, z⟩ := h
  exact z.elim
end
section
variable {X : Cx} {k j : Nat} {x : Str} {ps : List Str} {sp : Sp} {E : L2.St → XK} {e : Expr} {es : List Expr} {t : TA} {p pos : Pos}
theorem pe_cd (G : DefAt X.prog X.w X.K X.mg X.base k x ps sp) (hr : Room j X.A) (hx : ∀ σ, PassesAt (L2N.CX X.prog X.w) X σ (E σ)) (ha : PA X (e :: es) t) (hk : k ≤ j := by decide) (hg : Gl X x := by rfl)
    (hdb : (x == ("__debug__" : Str)) = false := by decide) (he : starEach (e :: es) X.env = (false, eval e X.env) :: starEach es X.env := by rfl) (hpl : (backTo pos (starEach es X.env)).any (·.1) = false := by rfl) :
    PE X (.Call (.Name x p) (e :: es) [] pos) (tCallS sp E t) := by
  obtain ⟨f, fd, m, kp, b, F, _⟩ := G.ex
  exact pe_callS F (hr.mono hk) hg m kp b hx ha hdb he hpl
end

/-! ### + of numbers, texts, lists -/
def rPlus : R2 := fun x y H Q => (∃ i j, x = .int i ∧ y = .int j ∧ Q (.int (i + j)) H) ∨ (rCatS x y H Q ∨ rCatR x y H Q)
def oPlus (a b : D) : Option (D × D × D) := match oAdd a b with
  | some p => some p
  | none => match oCatS a b with
    | some p => some p
    | none => oCatL a b
section
variable {X : Cx} {c : Cn}
theorem op_plus : OpR X (binaryOp .Add) rPlus := op_add.or (op_add_str.or op_catR)
theorem g_plus : G2 c rPlus oPlus := G2.or g_add (G2.or g_catS g_catL)
theorem iop_plus : PIp X .Add (fun x y H Q => (∃ i j, x = .int i ∧ y = .int j ∧ Q (.int (i + j)) H) ∨ (rCatS x y H Q)) := iop_add.or iop_add_str
end
/-! ### order of texts beside numbers -/
/-! ### in a list or tuple of flat things -/
def toV : D → Option V
  | .non => some .non
  | .bl b => some (.bl b)
  | .int i => some (.int i)
  | .str x => some (.str x)
  | _ => none
def toVL : List D → Option (List V)
  | [] => some []
  | d :: ds => match toV d, toVL ds with
    | some v, some vs => some (v :: vs)
    | _, _ => none
def itemsOf : D → Option (List D)
  | .lst _ xs => some xs
  | .tup xs => some xs
  | _ => none
def oInV (neg : Bool) (a b : D) : Option (D × D × D) := match toV a, (itemsOf b).bind toVL with
  | some v, some vs => some (.bl (if neg then !inV v vs else inV v vs), a, b)
  | _, _ => none
/-- one text in another -/
def oInS (neg : Bool) : D → D → Option (D × D × D)
  | .str i, .str j => some (.bl (if neg then !(!(Builtin.Str.occurrences j i 0 j.length 1).isEmpty) else !(Builtin.Str.occurrences j i 0 j.length 1).isEmpty), .str i, .str j)
  | _, _ => none
section
variable {X : Cx} {c : Cn} {Z : Addr → Prop} {H : Hp}
theorem toV_ok {v u : V} {d : D} {f : List Addr} (h : Rep c Z H d v f) (e : toV d = some u) : v = u ∧ flatV u = true := by
  cases d with
  | non => cases e; exact ⟨h.1, rfl⟩
  | bl b => cases e; exact ⟨h.1, rfl⟩
  | int i => cases e; exact ⟨h.1, rfl⟩
  | str x => cases e; exact ⟨h.1, rfl⟩
  | _ => cases e
theorem toVL_ok : ∀ {ds : List D} {vs us : List V} {f : List Addr}, RepL c Z H ds vs f → toVL ds = some us → vs = us ∧ us.all flatV = true
  | [], vs, us, f, h, e => by
    cases e
    exact ⟨h.1, rfl⟩
  | d :: ds, vs, us, f, h, e => by
    simp only [RepL] at h
    obtain ⟨v, r, f1, f2, ev, h1, h2, e2⟩ := h
    simp only [toVL] at e
    cases q1 : toV d with
    | none => rw [q1] at e; cases e
    | some u =>
      cases q2 : toVL ds with
      | none => rw [q1, q2] at e; cases e
      | some ws =>
        rw [q1, q2] at e
        cases e
        obtain ⟨e1, b1⟩ := toV_ok h1 q1
        obtain ⟨e3, b2⟩ := toVL_ok h2 q2
        rw [ev, e1, e3]
        exact ⟨rfl, by rw [List.all_cons, b1, b2]; rfl⟩
theorem items_ok {v : V} {d : D} {f : List Addr} {xs : List D} (h : Rep c Z H d v f) (e : itemsOf d = some xs) : ∃ p vs f', v = .ref p ∧ (SqL c.K H p vs ∨ SqT c.K H p vs) ∧ RepL c Z H xs vs f' := by
  cases d with
  | lst o ys =>
    cases e
    simp only [Rep] at h
    obtain ⟨a, vs, f', ev, r, q⟩ := h
    refine ⟨a, vs, f', ev, .inl (.inl ?_), r⟩
    cases o with
    | true => simp only [if_true] at q; exact .of q.1
    | false => simp only [Bool.false_eq_true, if_false] at q; exact q.1
  | tup ys =>
    cases e
    simp only [Rep] at h
    obtain ⟨a, vs, ev, r, q⟩ := h
    exact ⟨a, vs, f, ev, .inr q, r⟩
  | _ => cases e
theorem g_inV {neg : Bool} : G2 c (rIn c.K neg) (oInV neg) := by
  intro H x y a b T Q d a' b' e gd k
  unfold oInV at e
  cases q1 : toV a with
  | none => rw [q1] at e; cases e
  | some v =>
    cases q2 : itemsOf b with
    | none => rw [q1, q2] at e; cases e
    | some ds =>
      cases q3 : toVL ds with
      | none => simp [q1, q2, q3] at e
      | some vs =>
        rw [q1, q2] at e
        simp only [Option.bind_some, q3] at e
        cases e
        obtain ⟨Z, f, h⟩ := gd.head
        obtain ⟨Z', f', h'⟩ := gd.tail.head
        obtain ⟨ev, fv⟩ := toV_ok h' q1
        obtain ⟨p, ws, f2, ey, hs, r⟩ := items_ok h q2
        obtain ⟨ew, fw⟩ := toVL_ok r q3
        subst ev ew
        exact ⟨p, ws, ey, hs, fv, fw, k _ H (gd.addB _)⟩
theorem g_inS : G2 c (fun x y H Q => ∃ i j, x = .str i ∧ y = .str j ∧ Q (.bl (!(Builtin.Str.occurrences j i 0 j.length 1).isEmpty)) H) (oInS false) := by
  intro H x y a b T Q d a' b' e gd k
  unfold oInS at e
  split at e
  · cases e
    exact ⟨_, _, gd.tail.isS, gd.isS, k _ H (gd.addB _)⟩
  · cases e
theorem g_notInS : G2 c (fun x y H Q => ∃ i j, x = .str i ∧ y = .str j ∧ Q (.bl (!(!(Builtin.Str.occurrences j i 0 j.length 1).isEmpty))) H) (oInS true) := by
  intro H x y a b T Q d a' b' e gd k
  unfold oInS at e
  split at e
  · cases e
    exact ⟨_, _, gd.tail.isS, gd.isS, k _ H (gd.addB _)⟩
  · cases e
end

/-! ### len, items by place -/
def oLen (a : D) : Option (D × D) := match a with
  | .str y => if y.length ≤ sizeLine then some (.int (y.length : Nat), a) else none
  | .lst _ xs => some (.int (xs.length : Nat), a)
  | .tup xs => some (.int (xs.length : Nat), a)
  | .seq vs => some (.int (vs.length : Nat), a)
  | _ => none
/-- the reading of a built-in with one argument, over its argument's reading -/
def r1 (r : List V → Hp → VK → Prop) : V → Hp → VK → Prop := fun x H Q => r [x] H Q
section
variable {X : Cx} {c : Cn} {EX : XW}
theorem TOk.cb1 {t : TE} {r : List V → Hp → VK → Prop} {o : Opn} {g : D → Option (D × D)} (h : OpnOk c EX t o) (hr : G1 c (r1 r) g) : TOk c EX (tCB r (tCons t tNil)) (ev1 o g) := TOk.op1 (t := t) (r := r1 r) h hr
theorem TOk.cb2 {ta tb : TE} {r : List V → Hp → VK → Prop} {o1 o2 : Opn} {g : D → D → Option (D × D × D)} (h1 : OpnOk c EX ta o1) (h2 : OpnOk c EX tb o2) (hr : G2 c (fun x y H Q => r [x, y] H Q) g) : TOk c EX (tCB r (tCons ta (tCons tb tNil))) (ev2 o1 o2 g) := TOk.op2 (r := fun x y H Q => r [x, y] H Q) h1 h2 hr
theorem g_len : G1 c (r1 fun xs H Q => ∃ x n, xs = [x] ∧ LenV c.K x H n ∧ Q (.int n) H) oLen := by
  intro H x a T Q d a' e gd k
  obtain ⟨Z, f, h⟩ := gd.head
  cases a with
  | str y =>
    have e : (if y.length ≤ sizeLine then some (D.int (y.length : Nat), D.str y) else none) = some (d, a') := e
    by_cases q : y.length ≤ sizeLine
    · rw [if_pos q] at e
      cases e
      exact ⟨x, y.length, rfl, by rw [h.1]; exact ⟨q, rfl⟩, k _ H (gd.addI _)⟩
    · rw [if_neg q] at e
      cases e
  | lst o xs =>
    cases e
    obtain ⟨p, vs, f', ev, hs, r⟩ := items_ok h (show itemsOf (.lst o xs) = some xs from rfl)
    refine ⟨x, xs.length, rfl, ?_, k _ H (gd.addI _)⟩
    rw [ev, ← RepL.len _ _ _ r]
    rcases hs with hs | hs
    · exact .inl ⟨vs, hs, rfl⟩
    · exact .inr ⟨vs, hs, rfl⟩
  | tup xs =>
    cases e
    obtain ⟨p, vs, f', ev, hs, r⟩ := items_ok h (show itemsOf (.tup xs) = some xs from rfl)
    refine ⟨x, xs.length, rfl, ?_, k _ H (gd.addI _)⟩
    rw [ev, ← RepL.len _ _ _ r]
    rcases hs with hs | hs
    · exact .inl ⟨vs, hs, rfl⟩
    · exact .inr ⟨vs, hs, rfl⟩
  | seq vs =>
    cases e
    obtain ⟨p, ev, hs⟩ := gd.seqAt
    exact ⟨x, vs.length, rfl, by rw [ev]; exact .inl ⟨vs, hs, rfl⟩, k _ H (gd.addI _)⟩
  | _ => cases e
end
def oIx (a b : D) : Option (D × D × D) := match a, b with
  | .lst o xs, .int i => (match ixN xs.length i with
    | some k => (match xs[k]? with
      | some d => some (fz d, .lst o (xs.set k (fz d)), .int i)
      | none => none)
    | none => none)
  | .tup xs, .int i => (match ixN xs.length i with
    | some k => (match xs[k]? with
      | some d => some (fz d, .tup (xs.set k (fz d)), .int i)
      | none => none)
    | none => none)
  | .str z, .int i => if z.length ≤ sizeLine then (match atI z.cps.toList i with
    | some x => some (.str ⟨#[x]⟩, .str z, .int i)
    | none => none) else none
  | .seq vs, .int i => (match atI vs i with
    | some (.int n) => some (.int n, .seq vs, .int i)
    | _ => none)
  | _, _ => none
section
variable {X : Cx} {c : Cn} {EX : XW}
theorem ixN_at {α : Type} {xs : List α} {n : Nat} {i : Int} {k : Nat} {v : α} (l : xs.length = n) (h : ixN n i = some k) (q : xs[k]? = some v) : atI xs i = some v := by
  unfold atI
  rw [l, h]
  exact q
theorem g_ix : G2 c (rIx c.K) oIx := by
  intro H x y a b T Q d a' b' e gd k
  unfold oIx at e
  split at e
  · rename_i o xs i
    split at e
    · rename_i kk q1
      split at e
      · rename_i dd q2
        cases e
        obtain ⟨p, vs, z, ev, hr, hl, hz, g1⟩ := gd.swap.ixL q2
        refine .inl ⟨p, vs, i, z, ev, gd.isI, .inl hr, ixN_at hl q1 hz, k z H ?_⟩
        exact g1.perm (List.Perm.cons _ (.swap _ _ _))
      · cases e
    · cases e
  · rename_i xs i
    split at e
    · rename_i kk q1
      split at e
      · rename_i dd q2
        cases e
        obtain ⟨p, vs, z, ev, hr, hl, hz, g1⟩ := gd.swap.ixT q2
        refine .inr (.inl ⟨p, vs, i, z, ev, gd.isI, hr, ixN_at hl q1 hz, k z H ?_⟩)
        exact g1.perm (List.Perm.cons _ (.swap _ _ _))
      · cases e
    · cases e
  · rename_i z i
    split at e
    · rename_i hz
      split at e
      · rename_i cc q1
        cases e
        exact .inr (.inr ⟨z, i, cc, gd.tail.isS, gd.isI, hz, q1, k _ H (gd.addS _)⟩)
      · cases e
    · cases e
  · rename_i vs i
    split at e
    · rename_i n q1
      cases e
      obtain ⟨p, ev, hs⟩ := gd.tail.seqAt
      exact .inl ⟨p, vs, i, .int n, ev, gd.isI, hs, q1, k _ H (gd.addI _)⟩
    · cases e
  · cases e
end
/-- isinstance by a built-in type -/
def tyD : D → Option String
  | .non => some "NoneType"
  | .bl _ => some "bool"
  | .int _ => some "int"
  | .str _ => some "str"
  | .lst _ _ => some "list"
  | .tup _ => some "tuple"
  | .dic _ _ _ => some "dict"
  | _ => none
def oIsi (T : String) (a : D) : Option (D × D) := match (tyD a).bind fun t => kitB t T with
  | some b => some (.bl b, a)
  | none => none
section
variable {X : Cx} {c : Cn} {EX : XW}
theorem sqt_ty {K : PySem.W.Frag} {H : Hp} {p : Addr} {vs : List V} (h : SqT K H p vs) : TyX K H (.ref p) (.type "tuple") := by
  rcases h with (h | ⟨o, h⟩) | ⟨o, its, n, h, hc, _⟩
  · exact .base (.tup h)
  · exact .fTuple h
  · exact .kTuple h hc
theorem rd_ty {K : PySem.W.Frag} {H : Hp} {p : Addr} {vs : List V} (h : Rd H p (.lst vs)) : TyX K H (.ref p) (.type "list") := by
  rcases h with h | ⟨o, h⟩
  · exact .base (.lst h)
  · exact .base (.frz h)
theorem rdd_ty {K : PySem.W.Frag} {H : Hp} {p : Addr} {vs : List (Key × V)} (h : Rd H p (.dK vs)) : TyX K H (.ref p) (.type "dict") := by
  rcases h with h | ⟨o, h⟩
  · exact .base (.dK h)
  · exact .fDict h
theorem tyD_ok {Z : Addr → Prop} {H : Hp} {v : V} {d : D} {f : List Addr} {t : String} (h : Rep c Z H d v f) (e : tyD d = some t) : TyX c.K H v (.type t) := by
  cases d with
  | non => cases e; rw [h.1]; exact .base .non
  | bl b => cases e; rw [h.1]; exact .base (.bl b)
  | int i => cases e; rw [h.1]; exact .base (.int i)
  | str x => cases e; rw [h.1]; exact .base (.str x)
  | lst o xs =>
    cases e
    simp only [Rep] at h
    obtain ⟨a, vs, f', ev, r, q⟩ := h
    rw [ev]
    refine rd_ty (vs := vs) ?_
    cases o with
    | true => simp only [if_true] at q; exact .of q.1
    | false => simp only [Bool.false_eq_true, if_false] at q; exact q.1
  | tup xs =>
    cases e
    simp only [Rep] at h
    obtain ⟨a, vs, ev, r, q⟩ := h
    rw [ev]
    exact sqt_ty q
  | dic o ks xs =>
    cases e
    simp only [Rep] at h
    obtain ⟨a, vs, f', ev, r, l, q⟩ := h
    rw [ev]
    refine rdd_ty (vs := ks.zip vs) ?_
    cases o with
    | true => simp only [if_true] at q; exact .of q.1
    | false => simp only [Bool.false_eq_true, if_false] at q; exact q.1
  | _ => cases e
theorem g_isi {T : String} : G1 c (fun x H Q => rIsi c.K [x, .ty T] H Q) (oIsi T) := by
  intro H x a T' Q d a' e gd k
  unfold oIsi at e
  cases q1 : tyD a with
  | none => rw [q1] at e; cases e
  | some t =>
    rw [q1] at e
    cases q2 : kitB t T with
    | none => simp [q2] at e
    | some b =>
      simp only [Option.bind_some, q2] at e
      cases e
      obtain ⟨Z, f, h⟩ := gd.head
      exact ⟨x, .ty T, .type t, .type T, b, rfl, .ty T, tyD_ok h q1, kit_ty q2, k _ H (gd.addB _)⟩
theorem TOk.isi {t : TE} {o : Opn} {T : String} (h : OpnOk c EX t o) : TOk c EX (tCB (rIsi c.K) (tCons t (tCons (tC (.ty T)) tNil))) (ev1 o (oIsi T)) := TOk.op1 (t := t) (r := fun x H Q => rIsi c.K [x, .ty T] H Q) h g_isi
end
end Mir
end
section
set_option Elab.async false
set_option linter.all false
set_option maxRecDepth 100000
set_option maxHeartbeats 2000000
/-! Mir7: slices, built-ins over lists, methods of lists and texts, stores by place. -/
namespace Mir
open PySem PySem.Spec PyProof.Rows L2

/-! ### slices -/
def PoOk (c : Cn) (EX : XW) (t : TO) : Option (M D) → Prop
  | none => t = tNoPart
  | some f => ∃ te, t = tPart te ∧ TOk c EX te f
def evPo : Option (M D) → M (Option Int)
  | none => pure none
  | some f => do
    let d ← f
    match d with
    | .int i => pure (some i)
    | _ => badM
def evS (o : Opn) (lo hi : Option (M D)) (g : D → Option Int → Option Int → Option (D × D)) : M D := match o with
  | .tmp f => do
    let a ← f
    let l ← evPo lo
    let u ← evPo hi
    let p ← optM (g a l u)
    pure p.1
  | .slot i => do
    let _ ← peek i
    let l ← evPo lo
    let u ← evPo hi
    let a ← peek i
    let p ← optM (g a l u)
    setq i p.2
    pure p.1
def GS (c : Cn) (r : V → Option Int → Option Int → Hp → VK → Prop) (g : D → Option Int → Option Int → Option (D × D)) : Prop := ∀ (H : Hp) (x : V) (a : D) (l u : Option Int) (T : List (V × D)) (Q : VK) (d a' : D), g a l u = some (d, a') → Good c H [] ((x, a) :: T) →
  (∀ v H', Good c H' [] ((v, d) :: (x, a') :: T) → Q v H') → r x l u H Q
section
variable {c : Cn} {EX : XW}
theorem po_ok {t : TO} {f : Option (M D)} (h : PoOk c EX t f) (H : Hp) (σ : St) (ρ : Env) (T : List (V × D)) (Q : Option Int → Hp → Prop) (ft : Fit c σ ρ) (gd : Good c H [] (T ++ sl σ ρ))
    (p : OPost (fun l ρ' => ∀ H', Fit c σ ρ' → Good c H' [] (T ++ sl σ ρ') → Q l H') (XPost c EX T σ) (evPo f ρ)) : t σ H Q := by
  cases f with
  | none =>
    have e : t = tNoPart := h
    subst e
    exact p H ft gd
  | some m =>
    obtain ⟨te, e, h1⟩ := h
    subst e
    refine h1 H σ ρ T _ ft gd ((bind_post.mp p).imp (fun d ρ1 q v H1 f1 g1 => ?_) fun _ _ q => q)
    cases d with
    | int i => exact ⟨i, g1.isI, q H1 f1 g1.tail⟩
    | _ => exact q.elim
theorem TOk.slice {t : TE} {tl th : TO} {r : V → Option Int → Option Int → Hp → VK → Prop} {o : Opn} {lo hi : Option (M D)} {g : D → Option Int → Option Int → Option (D × D)} (h : OpnOk c EX t o) (hl : PoOk c EX tl lo) (hh : PoOk c EX th hi) (hr : GS c r g) :
    TOk c EX (tSl r t tl th) (evS o lo hi g) := fun H σ ρ T Q ft gd p => by
  cases o with
  | tmp f =>
    refine h H σ ρ T _ ft gd ((bind_post.mp p).imp (fun a ρ1 q v H1 f1 g1 => ?_) fun _ _ q => q)
    refine po_ok hl H1 σ ρ1 ((v, a) :: T) _ f1 g1 ((bind_post.mp q).imp (fun l ρ2 q2 H2 f2 g2 => ?_) fun _ _ q => q.more)
    refine po_ok hh H2 σ ρ2 ((v, a) :: T) _ f2 g2 ((bind_post.mp q2).imp (fun u ρ3 q3 H3 f3 g3 => ?_) fun _ _ q => q.more)
    obtain ⟨pr, e, q4⟩ := opt_post.mp (bind_post.mp q3)
    exact hr H3 v a l u _ Q pr.1 pr.2 e g3 fun z H4 g4 => q4 z H4 f3 g4.drop1
  | slot i =>
    cases h
    obtain ⟨a0, e0, p1⟩ := peek_post.mp (bind_post.mp p)
    obtain ⟨v, k⟩ := ft.has i a0 e0
    refine ⟨v, k, ?_⟩
    refine po_ok hl H σ ρ T _ ft gd ((bind_post.mp p1).imp (fun l ρ2 q2 H2 f2 g2 => ?_) fun _ _ q => q)
    refine po_ok hh H2 σ ρ2 T _ f2 g2 ((bind_post.mp q2).imp (fun u ρ3 q3 H3 f3 g3 => ?_) fun _ _ q => q)
    obtain ⟨a, e, q4⟩ := peek_post.mp (bind_post.mp q3)
    obtain ⟨pr, e2, q5⟩ := opt_post.mp (bind_post.mp q4)
    have ⟨hx, q6⟩ := setq_post (bind_post.mp q5)
    exact hr H3 v a l u _ Q pr.1 pr.2 e2 (slot_out g3 e k) fun z H4 g4 => q6 z H4 (f3.put k hx) (slot_in (T := (z, pr.1) :: T) g4.swap (ltE e) k)
end
def cutL {α : Type} (xs : List α) (lo hi : Option Int) : List α := (xs.drop (HT.sIx xs.length 0 lo)).take (HT.sIx xs.length xs.length hi - HT.sIx xs.length 0 lo)
theorem cut_sub {α : Type} (xs : List α) (lo hi : Option Int) : (cutL xs lo hi).Sublist xs := (List.take_sublist _ _).trans (List.drop_sublist _ _)
def intsOf : List V → Option (List D)
  | [] => some []
  | .int i :: vs => (intsOf vs).map (.int i :: ·)
  | _ :: _ => none
def oSl (a : D) (l u : Option Int) : Option (D × D) := match a with
  | .lst o xs => some (.lst true (cutL (fzL xs) l u), .lst o (fzL xs))
  | .str z => if z.length ≤ sizeLine then some (.str (cutS z l u), .str z) else none
  | .seq vs => (match intsOf (cutL vs l u) with
    | some ds => some (.lst true ds, .seq vs)
    | none => none)
  | _ => none
def rSl (K : PySem.W.Frag) : V → Option Int → Option Int → Hp → VK → Prop := fun x lo hi H Q => rSlL K x lo hi H Q ∨ rSlS x lo hi H Q
section
variable {X : Cx} {c : Cn} {EX : XW}
theorem sl_any : SlR X (rSl X.K) := sl_list.or sl_str
theorem zip_cut {vs : List V} {ds : List D} (h : vs.length = ds.length) (l u : Option Int) : (cutL vs l u).zip (cutL ds l u) = cutL (vs.zip ds) l u := by
  unfold cutL
  have e : (vs.zip ds).length = ds.length := by rw [List.length_zip, h, Nat.min_self]
  rw [e, h, List.zip_eq_zipWith, List.zip_eq_zipWith, List.drop_zipWith, List.take_zipWith]
theorem cut_len {α β : Type} {vs : List α} {ds : List β} (h : vs.length = ds.length) (l u : Option Int) : (cutL vs l u).length = (cutL ds l u).length := by
  unfold cutL
  rw [List.length_take, List.length_take, List.length_drop, List.length_drop, h]
theorem intsOf_ok : ∀ {vs : List V} {ds : List D}, intsOf vs = some ds → vs.length = ds.length ∧ ∀ {H : Hp} {R : List Addr} {L : List (V × D)}, Good c H R L → Good c H R (vs.zip ds ++ L)
  | [], ds, h => by
    cases h
    exact ⟨rfl, fun g => g⟩
  | .int i :: vs, ds, h => by
    simp only [intsOf] at h
    cases q : intsOf vs with
    | none => rw [q] at h; cases h
    | some es =>
      rw [q] at h
      cases h
      obtain ⟨l, k⟩ := intsOf_ok q
      exact ⟨by rw [List.length_cons, List.length_cons, l], fun g => (k g).addI i⟩
  | .non :: _, _, h => by cases h
  | .bl _ :: _, _, h => by cases h
  | .str _ :: _, _, h => by cases h
  | .byt _ :: _, _, h => by cases h
  | .flt _ :: _, _, h => by cases h
  | .ref _ :: _, _, h => by cases h
  | .ty _ :: _, _, h => by cases h
theorem g_sl : GS c (rSl c.K) oSl := by
  intro H x a l u T Q d a' e gd k
  cases a with
  | lst o xs =>
    cases e
    obtain ⟨p, vs, ev, hr, hl, g1⟩ := gd.parts
    refine .inl ⟨p, vs, ev, .inl hr, fun q hq => k _ _ ?_⟩
    have hl' : vs.length = (fzL xs).length := by rw [fzL_len]; exact hl
    have g2 : Good c H [] ((cutL vs l u).zip (cutL (fzL xs) l u) ++ (x, .lst o (fzL xs)) :: T) := by
      rw [zip_cut hl']
      exact g1.sub (List.Sublist.append (cut_sub _ _ _) (.refl _))
    exact g2.newL (cut_len hl' l u) hq (by simp)
  | str z =>
    have e : (if z.length ≤ sizeLine then some (D.str (cutS z l u), D.str z) else none) = some (d, a') := e
    by_cases q : z.length ≤ sizeLine
    · rw [if_pos q] at e
      cases e
      exact .inr ⟨z, gd.isS, q, k _ H (gd.addS _)⟩
    · rw [if_neg q] at e
      cases e
  | seq vs =>
    have e : (match intsOf (cutL vs l u) with | some ds => some (D.lst true ds, D.seq vs) | none => none) = some (d, a') := e
    cases q : intsOf (cutL vs l u) with
    | none => rw [q] at e; cases e
    | some ds =>
      rw [q] at e
      cases e
      obtain ⟨p, ev, hs⟩ := gd.seqAt
      obtain ⟨hl, kk⟩ := intsOf_ok (c := c) q
      exact .inl ⟨p, vs, ev, hs, fun q2 hq => k _ _ ((kk gd).newL hl hq (by simp))⟩
  | _ => cases e
end

/-! ### built-ins over lists -/
def oList (a : D) : Option (D × D) := match a with
  | .lst o xs => some (.lst true (fzL xs), .lst o (fzL xs))
  | _ => none
def boolsOf : List D → Option (List Bool)
  | [] => some []
  | .bl b :: ds => (boolsOf ds).map (b :: ·)
  | _ :: _ => none
def numsOf : List D → Option (List Int)
  | [] => some []
  | .int i :: ds => (numsOf ds).map (i :: ·)
  | _ :: _ => none
def strsOf : List D → Option (List Str)
  | [] => some []
  | .str x :: ds => (strsOf ds).map (x :: ·)
  | _ :: _ => none
def oAll (a : D) : Option (D × D) := match a with
  | .lst _ xs => (match boolsOf xs with
    | some bs => some (.bl (bs.all id), a)
    | none => none)
  | _ => none
def oAny (a : D) : Option (D × D) := match a with
  | .lst _ xs => (match boolsOf xs with
    | some bs => some (.bl (bs.any id), a)
    | none => none)
  | _ => none
def oSum (a : D) : Option (D × D) := match a with
  | .lst _ xs => (match numsOf xs with
    | some ns => some (.int ns.sum, a)
    | none => none)
  | _ => none
section
variable {X : Cx} {c : Cn} {EX : XW} {Z : Addr → Prop} {H : Hp}
theorem boolsOf_ok : ∀ {ds : List D} {bs : List Bool} {vs : List V} {f : List Addr}, RepL c Z H ds vs f → boolsOf ds = some bs → vs = bs.map V.bl
  | [], bs, vs, f, h, e => by
    cases e
    exact h.1
  | .bl b :: ds, bs, vs, f, h, e => by
    simp only [RepL] at h
    obtain ⟨v, r, f1, f2, ev, h1, h2, e2⟩ := h
    simp only [boolsOf] at e
    cases q : boolsOf ds with
    | none => rw [q] at e; cases e
    | some cs =>
      rw [q] at e
      cases e
      rw [ev, h1.1, boolsOf_ok h2 q]
      rfl
  | .non :: _, _, _, _, _, e => by cases e
  | .int _ :: _, _, _, _, _, e => by cases e
  | .str _ :: _, _, _, _, _, e => by cases e
  | .val _ :: _, _, _, _, _, e => by cases e
  | .seq _ :: _, _, _, _, _, e => by cases e
  | .lst _ _ :: _, _, _, _, _, e => by cases e
  | .tup _ :: _, _, _, _, _, e => by cases e
  | .dic _ _ _ :: _, _, _, _, _, e => by cases e
  | .ins _ _ _ _ :: _, _, _, _, _, e => by cases e
theorem numsOf_ok : ∀ {ds : List D} {bs : List Int} {vs : List V} {f : List Addr}, RepL c Z H ds vs f → numsOf ds = some bs → vs = bs.map V.int
  | [], bs, vs, f, h, e => by
    cases e
    exact h.1
  | .int b :: ds, bs, vs, f, h, e => by
    simp only [RepL] at h
    obtain ⟨v, r, f1, f2, ev, h1, h2, e2⟩ := h
    simp only [numsOf] at e
    cases q : numsOf ds with
    | none => rw [q] at e; cases e
    | some cs =>
      rw [q] at e
      cases e
      rw [ev, h1.1, numsOf_ok h2 q]
      rfl
  | .non :: _, _, _, _, _, e => by cases e
  | .bl _ :: _, _, _, _, _, e => by cases e
  | .str _ :: _, _, _, _, _, e => by cases e
  | .val _ :: _, _, _, _, _, e => by cases e
  | .seq _ :: _, _, _, _, _, e => by cases e
  | .lst _ _ :: _, _, _, _, _, e => by cases e
  | .tup _ :: _, _, _, _, _, e => by cases e
  | .dic _ _ _ :: _, _, _, _, _, e => by cases e
  | .ins _ _ _ _ :: _, _, _, _, _, e => by cases e
theorem strsOf_ok : ∀ {ds : List D} {bs : List Str} {vs : List V} {f : List Addr}, RepL c Z H ds vs f → strsOf ds = some bs → vs = bs.map V.str
  | [], bs, vs, f, h, e => by
    cases e
    exact h.1
  | .str b :: ds, bs, vs, f, h, e => by
    simp only [RepL] at h
    obtain ⟨v, r, f1, f2, ev, h1, h2, e2⟩ := h
    simp only [strsOf] at e
    cases q : strsOf ds with
    | none => rw [q] at e; cases e
    | some cs =>
      rw [q] at e
      cases e
      rw [ev, h1.1, strsOf_ok h2 q]
      rfl
  | .non :: _, _, _, _, _, e => by cases e
  | .bl _ :: _, _, _, _, _, e => by cases e
  | .int _ :: _, _, _, _, _, e => by cases e
  | .val _ :: _, _, _, _, _, e => by cases e
  | .seq _ :: _, _, _, _, _, e => by cases e
  | .lst _ _ :: _, _, _, _, _, e => by cases e
  | .tup _ :: _, _, _, _, _, e => by cases e
  | .dic _ _ _ :: _, _, _, _, _, e => by cases e
  | .ins _ _ _ _ :: _, _, _, _, _, e => by cases e
theorem g_list : G1 c (r1 fun xs H Q => ∃ p ys, xs = [.ref p] ∧ (SqL c.K H p ys ∨ SqT c.K H p ys) ∧ ∀ l, H l = none → Q (.ref l) (upd H l (.lst ys))) oList := by
  intro H x a T Q d a' e gd k
  unfold oList at e
  split at e
  · rename_i o xs
    cases e
    obtain ⟨p, vs, ev, hr, hl, g1⟩ := gd.parts
    exact ⟨p, vs, by rw [ev], .inl (.inl hr), fun q hq => k _ _ (g1.newL (by rw [fzL_len]; exact hl) hq (by simp))⟩
  · cases e
theorem g_all : G1 c (r1 (rAll c.K)) oAll := by
  intro H x a T Q d a' e gd k
  unfold oAll at e
  split at e
  · rename_i o xs
    split at e
    · rename_i bs q
      cases e
      obtain ⟨Z, f, h⟩ := gd.head
      obtain ⟨p, vs, f', ev, hs, r⟩ := items_ok h (show itemsOf (.lst o xs) = some xs from rfl)
      obtain ⟨p2, vs2, ev2, hr, hl, _⟩ := gd.parts
      obtain ⟨Z2, p3, vs3, f3, ev3, hr3, hl3, r3⟩ := gd.lst
      have es := boolsOf_ok r3 q
      subst es
      exact ⟨p3, bs, by rw [ev3], .inl hr3, k _ H (gd.addB _)⟩
    · cases e
  · cases e
theorem g_any : G1 c (r1 (rAny c.K)) oAny := by
  intro H x a T Q d a' e gd k
  unfold oAny at e
  split at e
  · rename_i o xs
    split at e
    · rename_i bs q
      cases e
      obtain ⟨Z2, p3, vs3, f3, ev3, hr3, hl3, r3⟩ := gd.lst
      have es := boolsOf_ok r3 q
      subst es
      exact ⟨p3, bs, by rw [ev3], .inl hr3, k _ H (gd.addB _)⟩
    · cases e
  · cases e
theorem g_sum : G1 c (r1 (rSum c.K)) oSum := by
  intro H x a T Q d a' e gd k
  unfold oSum at e
  split at e
  · rename_i o xs
    split at e
    · rename_i bs q
      cases e
      obtain ⟨Z2, p3, vs3, f3, ev3, hr3, hl3, r3⟩ := gd.lst
      have es := numsOf_ok r3 q
      subst es
      exact ⟨p3, bs, by rw [ev3], .inl hr3, k _ H (gd.addI _)⟩
    · cases e
  · cases e
end
/-- int(x) of a number or a truth value -/
def oInt (a : D) : Option (D × D) := match a with
  | .int i => some (.int i, a)
  | .bl b => some (.int (if b then 1 else 0), a)
  | .str x => (match PySem.intText? x with
    | some n => if x.length ≤ 640 then some (.int n, a) else none
    | none => none)
  | _ => none
def rInt : List V → Hp → VK → Prop := fun xs H Q => ((∃ i, xs = [.int i] ∧ Q (.int i) H) ∨ ∃ k, xs = [.bl k] ∧ Q (.int (if k then 1 else 0)) H) ∨ ∃ a n, xs = [.str a] ∧ PySem.intText? a = some n ∧ a.length ≤ 640 ∧ Q (.int n) H
/-- str(i) -/
def oStr (a : D) : Option (D × D) := match a with
  | .int i => if i.natAbs.log2 < 1920 then some (.str (Str.ofString (toString i)), a) else none
  | _ => none
section
variable {X : Cx} {c : Cn} {EX : XW}
theorem call_intA : CallR X (.type "int") rInt := call_int1.or call_int_str
theorem g_int : G1 c (r1 rInt) oInt := by
  intro H x a T Q d a' e gd k
  unfold oInt at e
  split at e
  · cases e
    exact .inl (.inl ⟨_, by rw [gd.isI], k _ H (gd.addI _)⟩)
  · cases e
    exact .inl (.inr ⟨_, by rw [gd.isB], k _ H (gd.addI _)⟩)
  · rename_i y
    split at e
    · rename_i n q
      split at e
      · rename_i hz
        cases e
        exact .inr ⟨y, n, by rw [gd.isS], q, hz, k _ H (gd.addI _)⟩
      · cases e
    · cases e
  · cases e
theorem g_str : G1 c (r1 fun xs H Q => ∃ i : Int, xs = [.int i] ∧ i.natAbs.log2 < 1920 ∧ Q (.str (toString i)) H) oStr := by
  intro H x a T Q d a' e gd k
  unfold oStr at e
  split at e
  · split at e
    · rename_i q
      cases e
      exact ⟨_, by rw [gd.isI], q, k _ H (gd.addS _)⟩
    · cases e
  · cases e
end

/-! ### methods of texts -/
def oSplit (a b : D) : Option (D × D × D) := match a, b with
  | .str x, .str y => if (y.length == 0) = false ∧ x.length + 2 ≤ sizeLine then some (.lst true ((Txt.split x y).map .str), a, b) else none
  | _, _ => none
def oJoin (a b : D) : Option (D × D × D) := match a, b with
  | .str x, .lst _ ds => (match strsOf ds with
    | some ys => if (ys.map (·.length)).sum + ys.length * x.length ≤ 16777216 then some (.str (Txt.join x ys), a, b) else none
    | none => none)
  | _, _ => none
section
variable {X : Cx} {c : Cn} {EX : XW}
theorem strs_good {H : Hp} {R : List Addr} {L : List (V × D)} (g : Good c H R L) : ∀ xs : List Str, Good c H R ((xs.map V.str).zip (xs.map D.str) ++ L)
  | [] => g
  | x :: xs => (strs_good g xs).addS x
/-- a text's method with one argument; the text is reckoned first -/
def evM1 (f : M D) (o : Opn) (g : D → D → Option (D × D × D)) : M D := match o with
  | .tmp h => do
    let a ← f
    match a with
    | .str x => (do
      let b ← h
      let p ← optM (g (.str x) b)
      pure p.1)
    | _ => badM
  | .slot j => do
    let a ← f
    match a with
    | .str x => (do
      let b ← peek j
      let p ← optM (g (.str x) b)
      setq j p.2.2
      pure p.1)
    | _ => badM
theorem TOk.m1 {to te : TE} {r : V → List V → Hp → VK → Prop} {f : M D} {o : Opn} {g : D → D → Option (D × D × D)} (h1 : TOk c EX to f) (h2 : OpnOk c EX te o) (hr : G2 c (fun x y H Q => r x [y] H Q) g) : TOk c EX (tM1 r to te) (evM1 f o g) := fun H σ ρ T Q ft gd p => by
  cases o with
  | tmp h =>
    refine h1 H σ ρ T _ ft gd ((bind_post.mp p).imp (fun a ρ1 q v H1 f1 g1 => ?_) fun _ _ q => q)
    cases a with
    | str x =>
      refine ⟨⟨x, g1.isS⟩, ?_⟩
      refine h2 H1 σ ρ1 ((v, .str x) :: T) _ f1 g1 ((bind_post.mp q).imp (fun b ρ2 q2 u H2 f2 g2 => ?_) fun _ _ q => q.more)
      obtain ⟨pr, e, q3⟩ := opt_post.mp (bind_post.mp q2)
      exact hr H2 v u (.str x) b _ Q pr.1 pr.2.1 pr.2.2 e g2 fun z H3 g3 => q3 z H3 f2 g3.drop1.drop1
    | _ => exact q.elim
  | slot j =>
    refine h1 H σ ρ T _ ft gd ((bind_post.mp p).imp (fun a ρ1 q v H1 f1 g1 => ?_) fun _ _ q => q)
    cases a with
    | str x =>
      refine ⟨⟨x, g1.isS⟩, ?_⟩
      cases h2
      obtain ⟨b, e, h4⟩ := peek_post.mp (bind_post.mp q)
      obtain ⟨pr, e2, h5⟩ := opt_post.mp (bind_post.mp h4)
      have ⟨hx, h6⟩ := setq_post (bind_post.mp h5)
      obtain ⟨u, k⟩ := f1.has j b e
      exact ⟨u, k, hr H1 v u (.str x) b _ Q pr.1 pr.2.1 pr.2.2 e2 (slot_out (T := (v, .str x) :: T) g1 e k) fun z H3 g3 => h6 z H3 (f1.put k hx) (slot_in (T := (z, pr.1) :: T) (g3.sub (((List.sublist_cons_self _ _).cons_cons _).cons_cons _)).swap (ltE e) k)⟩
    | _ => exact q.elim
theorem g_split : G2 c (fun x y H Q => ∃ a b, x = .str a ∧ [y] = [.str b] ∧ (b.length == 0) = false ∧ a.length + 2 ≤ sizeLine ∧ rNewStrs (Txt.split a b) H Q) oSplit := by
  intro H x y a b T Q d a' b' e gd k
  unfold oSplit at e
  split at e
  · split at e
    · rename_i s u q
      cases e
      refine ⟨s, u, gd.tail.isS, by rw [gd.isS], q.1, q.2, fun p hp => k _ _ ?_⟩
      exact (strs_good gd (Txt.split s u)).newL (by rw [List.length_map, List.length_map]) hp (by simp)
    · cases e
  · cases e
theorem g_join : G2 c (fun x y H Q => ∃ a p, ∃ ys : List Str, x = .str a ∧ [y] = [.ref p] ∧ (SqL c.K H p (ys.map V.str) ∨ SqT c.K H p (ys.map V.str)) ∧
    (ys.map (·.length)).sum + ys.length * a.length ≤ 16777216 ∧ Q (.str (Txt.join a ys)) H) oJoin := by
  intro H x y a b T Q d a' b' e gd k
  unfold oJoin at e
  split at e
  · rename_i s o ds
    split at e
    · rename_i ys q
      split at e
      · rename_i z
        cases e
        obtain ⟨Z2, p3, vs3, f3, ev3, hr3, hl3, r3⟩ := gd.lst
        have es := strsOf_ok r3 q
        subst es
        exact ⟨s, p3, ys, gd.tail.isS, by rw [ev3], .inl (.inl hr3), z, k _ H (gd.addS _)⟩
      · cases e
    · cases e
  · cases e

/-! ### methods that change an own list: xs.append(e), xs.pop(i), xs.pop() -/
def appM (i : Nat) (f : M D) : M D := do
  let a0 ← peek i
  match a0 with
  | .lst _ _ => (do
    let d ← f
    let a ← peek i
    match a with
    | .lst true xs => if xs.length < sizeLine then (do { setv i (some (.lst true (xs ++ [d]))); pure .non }) else badM
    | _ => badM)
  | _ => badM
theorem TOk.append {i : Nat} {t : TE} {f : M D} (h : TOk c EX t f) : TOk c EX (tBM c.K "list" rAppend (tVar i) (tCons t tNil)) (appM i f) := fun H σ ρ T Q ft gd p => by
  obtain ⟨a0, e0, p1⟩ := peek_post.mp (bind_post.mp p)
  obtain ⟨v, k⟩ := ft.has i a0 e0
  cases a0 with
  | lst o0 xs0 =>
    obtain ⟨Z, q0, vs0, f0, ev0, hr0, _, _⟩ := (slot_out gd e0 k).lst
    refine ⟨v, k, ?_, ?_⟩
    · rw [ev0]
      exact .inl ⟨rfl, vs0, .inl hr0⟩
    · refine h H σ ρ T _ ft gd ((bind_post.mp p1).imp (fun d ρ1 q u H1 f1 g1 => ?_) fun _ _ q => q)
      obtain ⟨a, e, q1⟩ := peek_post.mp (bind_post.mp q)
      cases a with
      | lst o xs =>
        cases o with
        | true =>
          by_cases hz : xs.length < sizeLine
          · simp only [hz, if_true] at q1
            have q2 := bind_post.mp q1
            rw [setv_post] at q2
            obtain ⟨pp, vs, ev, hp, hl, g2⟩ := ((slot_out (T := (u, d) :: T) g1 e k).swap).push
            refine ⟨pp, vs, u, ev, rfl, hp, by omega, q2 _ _ (f1.put k (by intro z; cases z)) ?_⟩
            exact (slot_in g2 (ltE e) k).addN
          · simp only [hz, if_false] at q1
            exact q1.elim
        | false => exact q1.elim
      | _ => exact q1.elim
  | _ => exact p1.elim
/-- xs[i] = e -/
def setIx (i : Nat) (f h : M D) : M Flw := do
  let d ← f
  let _ ← peek i
  let b ← h
  let a ← peek i
  match a, b with
  | .lst true xs, .int n => (match ixN xs.length n with
    | some k => (do
      setv i (some (.lst true (xs.set k d)))
      pure .nx)
    | none => badM)
  | _, _ => badM
theorem SOk.setIx {i : Nat} {t ti : TE} {f h : M D} (h1 : TOk c EX t f) (h2 : TOk c EX ti h) : SOk c EX [] (tAsg t (gSub (tVar i) ti rSetL)) (setIx i f h) := fun H σ ρ T Dn ft gd p => by
  refine h1 H σ ρ T _ ft gd ((bind_post.mp p).imp (fun d ρ1 q v H1 f1 g1 => ?_) fun _ _ q => q σ .refl)
  obtain ⟨a0, e0, q1⟩ := peek_post.mp (bind_post.mp q)
  obtain ⟨u, k⟩ := f1.has i a0 e0
  refine ⟨u, k, ?_⟩
  refine h2 H1 σ ρ1 ((v, d) :: T) _ f1 g1 ((bind_post.mp q1).imp (fun b ρ2 q2 w H2 f2 g2 => ?_) fun _ _ q => (q σ .refl).more)
  obtain ⟨a, e, q3⟩ := peek_post.mp (bind_post.mp q2)
  match a, b, q3, e, g2 with
  | .lst true xs, .int n, q3, e, g2 =>
    cases q4 : ixN xs.length n with
    | none =>
      simp only [q4] at q3
      exact q3.elim
    | some j =>
      simp only [q4] at q3
      have q5 := bind_post.mp q3
      rw [setv_post] at q5
      have ew := g2.isI
      have g3 : Good c H2 [] ((u, .lst true xs) :: ((v, d) :: T ++ sl σ (ρ2.set i none))) := slot_out (T := (v, d) :: T) g2.tail e k
      obtain ⟨p, vs, ev, hp, hl, g4⟩ := g3.openL
      refine ⟨p, vs, n, j, ev, ew, hp, by rw [hl]; exact q4, q5 σ _ .refl (f2.put k (by intro z; cases z)) ?_⟩
      have hj : j < xs.length := (ixN_seq q4).2.1
      have hlj : (vs.set j v).length = (xs.set j d).length := by rw [List.length_set, List.length_set, hl]
      have g5 : Good c H2 [p] ((vs.set j v).zip (xs.set j d) ++ (T ++ sl σ (ρ2.set i none))) := by
        have pm : ((vs.set j v).zip (xs.set j d)).Perm ((v, d) :: (vs.eraseIdx j).zip (xs.eraseIdx j)) := by
          have z := zip_at (vs := vs.set j v) (ds := xs.set j d) (k := j) (x := v) (d := d) (List.getElem?_set_self (by omega)) (List.getElem?_set_self hj)
          rw [List.eraseIdx_set_eq, List.eraseIdx_set_eq] at z
          exact z
        obtain ⟨x0, hx0⟩ : ∃ x, vs[j]? = some x := ⟨vs[j]'(by omega), List.getElem?_eq_getElem (by omega)⟩
        obtain ⟨d0, hd0⟩ : ∃ x, xs[j]? = some x := ⟨xs[j], List.getElem?_eq_getElem hj⟩
        have g6 := g4.perm (List.Perm.append_right _ (zip_at hx0 hd0))
        have g7 : Good c H2 [p] ((vs.eraseIdx j).zip (xs.eraseIdx j) ++ ((v, d) :: (T ++ sl σ (ρ2.set i none)))) := g6.tail
        refine g7.perm ?_
        exact (List.perm_middle).trans (List.Perm.append_right _ pm.symm)
      have g8 := g5.closeL hlj (.inr (by rw [hp]; trivial))
      rw [← ev] at g8
      exact slot_in g8 (ltE e) k
end
end Mir
end
section
set_option Elab.async false
set_option linter.all false
set_option maxRecDepth 100000
set_option maxHeartbeats 2000000
/-! Mir8: signs of a text walked; signs of numbers. -/
namespace Mir
open PySem PySem.Spec PyProof.Rows L2

def oNeg (a : D) : Option (D × D) := match a with
  | .int i => some (.int (-i), a)
  | _ => none
def oIPlus (a b : D) : Option (D × D × D) := match oAdd a b with
  | some p => some p
  | none => oCatS a b
section
variable {X : Cx} {c : Cn} {EX : XW}
theorem g_neg : G1 c (rU fun i => .int (-i)) oNeg := by
  intro H x a T Q d a' e gd k
  unfold oNeg at e
  split at e
  · cases e
    exact ⟨_, gd.isI, k _ H (gd.addI _)⟩
  · cases e
theorem g_iplus : G2 c (fun x y H Q => (∃ i j, x = .int i ∧ y = .int j ∧ Q (.int (i + j)) H) ∨ (rCatS x y H Q)) oIPlus := G2.or g_add g_catS
theorem TOk.un {t : TE} {o : Opn} {r : V → Hp → VK → Prop} {g : D → Option (D × D)} (h : OpnOk c EX t o) (hr : G1 c r g) : TOk c EX (tUn r t) (ev1 o g) := TOk.op1 (t := t) (r := r) h hr
def signsD (z : Str) : List D := z.cps.toList.map fun x => D.str ⟨#[x]⟩
def forS (f : M D) (tg : D → M Unit) (body : M Flw) : M Flw := do
  let d ← f
  match d with
  | .str z => loopM tg body (signsD z)
  | _ => badM
theorem SOk.forS {W W' : List Nat} {t : TE} {g : TG} {tb : TS} {f : M D} {tg : D → M Unit} {body : M Flw} (ht : TOk c EX t f) (hg : GOk c W g tg) (hb : SOk c EX W' tb body) : SOk c EX (W ++ W') (tFor (iStr t) g tb) (forS f tg body) := fun H σ ρ T Dn ft gd p => by
  refine ht H σ ρ T _ ft gd ((bind_post.mp p).imp (fun d ρ1 q v H1 f1 g1 => ?_) fun _ _ q => q σ .refl)
  cases d with
  | str z =>
    refine ⟨z, g1.isS, ?_⟩
    refine for_it walk_str (fun k σ' H' => ∃ ρ', Agr (W ++ W') σ σ' ∧ Fit c σ' ρ' ∧ Good c H' [] (T ++ sl σ' ρ') ∧
      OPost (FPost c (W ++ W') T σ Dn) (XPostS c EX (W ++ W') T σ) (loopM tg body ((signsD z).drop k) ρ')) ⟨ρ1, .refl, f1, g1.tail, q⟩ (fun _ _ _ _ _ => trivial) (fun k x σ' H' H2 hk h hy => ?_) (fun σ' H' h => ?_)
    · obtain ⟨ρ', ag, f', g', p'⟩ := h
      obtain ⟨e1, cc, hc, e2⟩ := hy
      subst e1 e2
      have hd : (signsD z)[k]? = some (D.str ⟨#[cc]⟩) := by
        unfold signsD
        rw [List.getElem?_map, Array.getElem?_toList, hc]
        rfl
      rw [drop_at hd] at p'
      exact turn_ok hg hb (U := []) (T := T) (σ0 := σ) (D := Dn) f' (g'.addS _) ag p' fun σ2 H2 ρ2 ag2 f2 g2 p2 => ⟨ρ2, ag2, f2, g2, p2⟩
    · obtain ⟨ρ', ag, f', g', p'⟩ := h
      rw [List.drop_eq_nil_of_le (by unfold signsD; rw [List.length_map, Array.length_toList]; exact Nat.le_refl _)] at p'
      exact p' σ' H' ag f' g'
  | _ => exact q.elim
end
end Mir
end
section
set_option Elab.async false
set_option linter.all false
set_option maxRecDepth 100000
set_option maxHeartbeats 4000000
/-! Err0: an own error whose __init__ says super().__init__(text) and stores its fields: what its call leaves. -/
namespace MirE
open PySem PySem.W PySem.Calls PyProof.Rows PySem.HandSPX
abbrev veInit : String := "ValueError.__init__"
/-- the statements of such an __init__ -/
def sup (me : PySem.Expr) (p1 p2 p3 p4 p5 : Pos) : Stmt := .Expr (.Call (.Attribute (.Call (.Name "super" p1) [] [] p2) "__init__" p3) [me] [] p4) p5
def sto (f : Str) (p1 p2 p3 p4 : Pos) : Stmt := .Assign [.Attribute (.Name "self" p1) f p2] (.Name f p3) p4
section
variable {prog : Program} {w : World} {A : Around} {E : Value → Shared → Prop} {K : Frag} {x C L f cda cc : Addr} {q : Str} {scope : Scope} {m mg mb : Str → Option Value} {body : List Stmt}
theorem one_size (v : Value) : [v].length ≤ sizeLine := by
  rw [sizeLine_eq]
  exact (by decide : 1 ≤ 16777216)
theorem ns_keep {h h' : Heap} {m : Str → Option Value} (hn : h.Ns L m) (k : ∀ o, h.get? L = some o → h'.get? L = some o) : h'.Ns L m := by
  obtain ⟨oL, es, ep, hL, r⟩ := hn
  exact ⟨oL, es, ep, k _ hL, r⟩
theorem sup_step {s : Shared} {me : PySem.Expr} {p1 p2 p3 p4 p5 : Pos} {Q : Flow → Shared → Prop} {t0 : Addr} {ccl cl : Value} {cdd cld : Option Addr} {vs : Array Value} {ccs csl osl : Array (Option Value)} {file msg : Str} {tf : Tok} {fd : FuncData} {oc : Value} {od : Option Addr} {ar : Arg} {cdC : ClassData}
    (X : K.In s.heap) (hn : s.heap.Ns L m) (hv : m "self" = some (.ref x)) (hx : s.heap.get? x = some (excO C t0)) (hxL : x ≠ L) (G : s.heap.Ns mainGlobals mg) (hS : mg "super" = none) (B : s.heap.Ns builtinsNs mb) (hSb : mb "super" = some (.type "super"))
    (hf : K.lookup f = some ⟨oc, od, .func fd, osl⟩) (hp : (fd.params.posonlyargs ++ fd.params.args).head? = some ar) (har : ar.arg = "self")
    (hcode : K.lookup cda = some ⟨ccl, cdd, .fields vs, ccs⟩) (hvs : vs[2]? = some (.str file tf)) (hfile : ((prog.main.file : Str) == file) = true) (hcell : K.lookup cc = some ⟨cl, cld, .cell (some (.ref C)), csl⟩)
    (hC : clsIn K C = some cdC) (hsub : mroIn K C (.ref C) = some true) (hB : subIn K (.ref C) (.type "ValueError") = some true) (hm : ks_superIn K C C "__init__" = some (some (.builtin veInit))) (ho : nsIn K cStatics "thirdparty.any" = some none)
    (hex : excInitIn K C veTail "ValueError.__new__" = true)
    (hks : scope.names.lookup ("super" : Str) = some .globalImplicit) (hkc : scope.names.lookup ("__class__" : Str) = some .free) (hka : scope.names.lookup ("self" : Str) = some .local) (hk : scope.kind = .function)
    (htop : (prog.main.scope.names.lookup ("super" : Str)).isSome = false)
    (he : ∀ (s1 : Shared) (Q1 : Value → Shared → Prop), s1.heap.Ns L m → (∀ tk tk', Q1 (.str msg tk) { s1 with toks := tk' }) → wpAny (model prog w) A (eval me (ksEnv q scope L f (.ref cda) cc)) Q1 E s1)
    (hse : starEach [me] (ksEnv q scope L f (.ref cda) cc) = [(false, eval me (ksEnv q scope L f (.ref cda) cc))])
    (hsw : swapsWith (.Call (.Attribute (.Call (.Name "super" p1) [] [] p2) "__init__" p3) [me] [] p4) none p5.line (ksEnv q scope L f (.ref cda) cc) = pure false)
    (hin : interactive (ksEnv q scope L f (.ref cda) cc) = false) {pl : Sem Bool}
    (hev : eval (.Call (.Attribute (.Call (.Name "super" p1) [] [] p2) "__init__" p3) [me] [] p4) (ksEnv q scope L f (.ref cda) cc) = (do
      let ov ← attributeBase (.Call (.Name "super" p1) [] [] p2) "__init__" (ksEnv q scope L f (.ref cda) cc) (eval (.Call (.Name "super" p1) [] [] p2) (ksEnv q scope L f (.ref cda) cc))
      standAt p3.atName
      let (g, first) ← holding [ov] (getMethod ov "__init__" pl)
      callWith p4 g first (backTo p4 (starEach [me] (ksEnv q scope L f (.ref cda) cc))) []))
    (hq : ∀ h' tk t1, (∀ b o, b ≠ x → s.heap.get? b = some o → h'.get? b = some o) → h'.get? x = some (excO C t1) → h'.Ns L m → Q .next { s with heap := h', toks := tk }) :
    _root_.PySem.wpAt (model prog w) A (.func body (ksEnv q scope L f (.ref cda) cc)) (exec (sup me p1 p2 p3 p4 p5) (ksEnv q scope L f (.ref cda) cc)) Q E s := by
  refine ks_wpAt_Expr_any ?_ hin hsw
  refine ks_wpAt_MethodCall (pl := pl) ?_ hev
  obtain ⟨hh, g, d, t, os⟩ := s
  obtain ⟨oD, hD1, hD2⟩ : ∃ oD, hh.get? C = some oD ∧ oD.data = .cls cdC := by
    unfold clsIn at hC
    split at hC
    · rename_i c d cd' sl ho
      cases hC
      exact ⟨_, X _ _ ho, rfl⟩
    · cases hC
  have I : InstAt hh x (excO C t0) C none := ⟨hx, rfl, rfl, trivial⟩
  refine ks_wpAt_super_base (env := ksEnv q scope L f (.ref cda) cc) hks hkc (by decide) rfl (X _ _ hf) rfl hp rfl (X _ _ hcode) rfl hvs hfile htop ?_
  refine ks_loadName_global hk hks (loadGlobal_builtin (env := ksEnv q scope L f (.ref cda) cc) G hS B hSb ⟨rfl, ?_⟩)
  refine wpAny_loadName_free hk hkc rfl ⟨_, X _ _ hcell, rfl⟩ ?_
  rw [har]
  refine wpAny_loadName_local hk hka hn hv ?_
  refine ks_wpAny_isType_cls hD1 hD2 ⟨rfl, ?_⟩
  refine ks_wpAny_call_super hD1 hD2 hx rfl (fun c e => nomatch e) (looks_mroIn X hsub) (fun h1 e1 k1 => ?_)
  -- the bound __init__
  have X1 : K.In h1 := X.keeps k1
  have hI : Looks (model prog w) h1 (isInstance (.ref x) (.type "ValueError")) true := (show InstAt h1 x (excO C t0) C none from ⟨k1 _ _ hx, rfl, rfl, trivial⟩).type.andThen (looks_subIn X1 hB)
  unfold ks_superIn at hm
  rw [hC] at hm
  refine kxs_getMethod kxs_ValueError e1 (looks_opaque X1 ho) (l₀ := cdC.mro) ?_ rfl X1 hm hI (ks_ne X I hC) (by decide) ?_
  · exact fun A Q E s k q => wpAny_bind ((looks_clsIn X1 hC) A _ E s k (wpAny_pure q))
  have hu : (h1.push (kxs_mw veInit x)).get? h1.objs.size = some (kxs_mw veInit x) := Heap.get?_push_at rfl rfl
  have k2 : ∀ b o, hh.get? b = some o → (h1.push (kxs_mw veInit x)).get? b = some o := fun b o e => Heap.get?_push_of_some _ (k1 b o e)
  have n2 : (h1.push (kxs_mw veInit x)).Ns L m := ns_keep hn fun o e => k2 _ _ e
  refine kxs_callWith (i := veInit) (x := x) (by rw [hse]; rfl) ?_
  rw [hse]
  show wpAny _ _ (evalArgs (.ref h1.objs.size) true ((false, eval me (ksEnv q scope L f (.ref cda) cc)) :: []) []) _ _ _
  refine evalArgs_plain (spliced_cons (he _ _ n2 fun tk tk' => spliced_nil ⟨hu, ?_⟩))
  show wpAny _ _ (call (.ref h1.objs.size) [.str msg tk]) _ _ _
  obtain ⟨nm, N', qn, bs, bm, hdct, sn, sub, ab, col, dd, k0, k1', k2', k3, k5, hC3, hT⟩ := excInit_of (X1.keeps fun b o e => Heap.get?_push_of_some _ e) hex
  have hx2 := k2 _ _ hx
  refine wpAny_call (codeAny_of_tree ?_)
  show wpAny _ A.in1 (callAny (.ref h1.objs.size) ⟨[.str msg tk], []⟩) _ _ _
  simp only [callAny]
  refine wpAny_bind (wpAny_load hu ?_)
  simp only [kxs_mw, show (Value.type "method-wrapper" == Value.type "method" || Value.type "method-wrapper" == Value.type "builtin_function_or_method" || Value.type "method-wrapper" == Value.type "method-wrapper") = true by decide, if_true]
  refine KFB.if_so (by decide) ?_
  refine wpAny_bind (check_bound_init F.excBase_ValueError.toExcCallFacts hC3 hx2 rfl ?_)
  refine wpAny_bind (wpAny_pure (wpAny_pure ?_))
  refine ⟨plainId_quiet F.excBase_ValueError.init.plain _, codeAny_builtin F.excBase_ValueError.initEntry ?_⟩
  refine exc_init_tree (cls := .ref C) (t0 := t0) (dv := none) (c2 := .none) (c3 := .none) (b4 := .bool false) hx2 (one_size _) fun h' kk e' t' => ?_
  exact hq h' _ _ (fun b o hb e => kk b o hb (k2 b o e)) e' (ns_keep n2 fun o e => kk L o (Ne.symm hxL) e)

theorem ldK {s : Shared} {y : Str} {pos : Pos} {v : Value} {Q : Value → Shared → Prop} (hn : s.heap.Ns L m) (hv : m y = some v) (hk : scope.kind = .function) (hl : scope.names.lookup y = some .local) (hd : (y == ("__debug__" : Str)) = false) (h : Q v s) :
    wpAny (model prog w) A (eval (.Name y pos) (ksEnv q scope L f (.ref cda) cc)) Q E s := wpAny_Name (wpAny_loadName_local hk hl hn hv h) hd
/-- self.f = f, the first one -/
theorem sto_first {s : Shared} {g : Str} {p1 p2 p3 p4 : Pos} {v : Value} {t0 : Addr} {cd : ClassData} {Q : Flow → Shared → Prop} (X : K.In s.heap) (hn : s.heap.Ns L m) (hx : s.heap.get? x = some (excO C t0)) (hself : m "self" = some (.ref x)) (hg : m g = some v)
    (hk : scope.kind = .function) (hka : scope.names.lookup ("self" : Str) = some .local) (hkg : scope.names.lookup g = some .local) (hgd : (g == ("__debug__" : Str)) = false)
    (sa : findIn K (.ref C) "__setattr__" = some (some (.builtin "object.__setattr__"))) (hcd : clsIn K C = some cd) (hm : refsVE cd.mro = true) (hh : cd.hasDict = true) (ha : findIn K (.ref C) g = some none)
    (hsw : swapsWith (.Name g p3) (some (.Attribute (.Name "self" p1) g p2)) p4.line (ksEnv q scope L f (.ref cda) cc) = pure false)
    (hq : ∀ h' tk dx, (∀ b o, b ≠ x → s.heap.get? b = some o → h'.get? b = some o) → s.heap.objs.size ≤ dx → dx ≠ x → h'.get? x = some { cls := .ref C, dict := some dx, data := .fields #[.ref t0, .none, .none, .none, .bool false, .none] } →
      h'.Ns1 dx (fun y => if y = g then some v else none) → Q .next { s with heap := h', toks := tk }) :
    wpAny (model prog w) A (exec (sto g p1 p2 p3 p4) (ksEnv q scope L f (.ref cda) cc)) Q E s := by
  refine plainObj_wpAny_Assign_Attribute (ldK hn hg hk hkg hgd (ldK hn hself hk hka (by decide) ?_)) hsw
  refine set_plain X (ox := excO C t0) (od := none) ⟨hx, rfl, rfl, trivial⟩ sa ?_
  exact exc_osa X hx hcd hm hh ha fun h' tk' dx a b c d e => hq h' tk' dx a b c d e
/-- a further one -/
theorem sto_next {s : Shared} {g : Str} {p1 p2 p3 p4 : Pos} {v : Value} {t0 dx : Addr} {cd : ClassData} {m0 : Str → Option Value} {nl : List Str} {Q : Flow → Shared → Prop} (X : K.In s.heap) (hn : s.heap.Ns L m)
    (hx : s.heap.get? x = some { cls := .ref C, dict := some dx, data := .fields #[.ref t0, .none, .none, .none, .bool false, .none] }) (hns : s.heap.Ns1 dx m0) (hw : PySem.Within m0 nl) (hz : nl.length ≤ 1000) (hself : m "self" = some (.ref x)) (hg : m g = some v)
    (hk : scope.kind = .function) (hka : scope.names.lookup ("self" : Str) = some .local) (hkg : scope.names.lookup g = some .local) (hgd : (g == ("__debug__" : Str)) = false)
    (sa : findIn K (.ref C) "__setattr__" = some (some (.builtin "object.__setattr__"))) (hcd : clsIn K C = some cd) (hm : refsVE cd.mro = true) (hh : cd.hasDict = true) (ha : findIn K (.ref C) g = some none)
    (hsw : swapsWith (.Name g p3) (some (.Attribute (.Name "self" p1) g p2)) p4.line (ksEnv q scope L f (.ref cda) cc) = pure false)
    (hq : ∀ h' tk, (∀ b o, b ≠ dx → s.heap.get? b = some o → h'.get? b = some o) → h'.Ns1 dx (fun y => if y = g then some v else m0 y) → Q .next { s with heap := h', toks := tk }) :
    wpAny (model prog w) A (exec (sto g p1 p2 p3 p4) (ksEnv q scope L f (.ref cda) cc)) Q E s := by
  refine plainObj_wpAny_Assign_Attribute (ldK hn hg hk hkg hgd (ldK hn hself hk hka (by decide) ?_)) hsw
  obtain ⟨oD, esD, epD, hoD, hdD, _⟩ := hns.count hw
  refine set_plain X (ox := { cls := .ref C, dict := some dx, data := .fields #[.ref t0, .none, .none, .none, .bool false, .none] }) (od := some oD) ⟨hx, rfl, rfl, hoD⟩ sa ?_
  exact PySem.OEX.osa_old X hx hns hw hz hcd hm hh ha fun h' tk' a b => hq h' tk' a b
end

/-- a dict's names, the last stored ahead -/
def nsF : List (Str × Value) → Str → Option Value
  | [] => fun _ => none
  | (f, v) :: r => fun y => if y = f then some v else nsF r y
theorem nsF_within : ∀ l : List (Str × Value), PySem.Within (nsF l) (l.map (·.1))
  | [] => PySem.Within.nil
  | (f, v) :: r => PySem.Within.cons f v (nsF_within r)
/-- the message: a text, or a text and the first field -/
def MsgAt (me : PySem.Expr) (msg : Str) (f1 : Str) : Bool → Prop
  | false => ∃ i p, me = .Constant (.str msg) i p
  | true => ∃ i p p' p'', me = .BinOp (.Constant (.str msg) i p) .Add (.Name f1 p') p''
def MsgOk (msg : Str) (v1 : Value) : Bool → Prop
  | false => True
  | true => ∃ y t, v1 = .str y t ∧ msg.length + y.length ≤ sizeLine
/-- what the written part says of an own error at C, its __init__ at fI -/
structure ErrTxt (P : Program) (K : Frag) (mg : Str → Option Value) (nm : Str) (fs : List Str) (cat : Bool) (msg : Str) (C fI : Addr) : Prop where
  gC : mg nm = some (.ref C)
  gS : mg "super" = none
  top : (P.main.scope.names.lookup ("super" : Str)).isSome = false
  ex : excInitIn K C veTail "ValueError.__new__" = true
  ve : ∃ cd, clsIn K C = some cd ∧ refsVE cd.mro = true ∧ cd.hasDict = true
  sa : findIn K (.ref C) "__setattr__" = some (some (.builtin "object.__setattr__"))
  ga : findIn K (.ref C) "__getattribute__" = some (some (.builtin "BaseException.__getattribute__"))
  gg : findIn K (.ref C) "__getattr__" = some none
  noN : ∀ f ∈ fs, findIn K (.ref C) f = some none
  iC : findIn K (.ref C) "__init__" = some (some (.ref fI))
  tI : typeIn K (.ref fI) = some (.type "function")
  kC : keepIn K (.ref C) = true
  exC : subIn K (.ref C) (.type "BaseException") = some true
  veC : subIn K (.ref C) (.type "ValueError") = some true
  tyC : typeIn K (.ref C) = some (.type "type")
  hdC : hasDictIn K C = true
  me : mroIn K C (.ref C) = some true
  up : ks_superIn K C C "__init__" = some (some (.builtin veInit))
  cs : nsIn K cStatics "thirdparty.any" = some none
  fn : ∃ (qual : Str) (params : Arguments) (body : List Stmt) (scope : Scope) (dV kV doc pm ct oc ccl cl : Value) (an od cdd cld : Option Addr) (osl ccs csl : Array (Option Value)) (cda cc : Addr) (vs : Array Value) (file : Str) (tf : Tok) (ar : Arg),
    K.lookup fI = some ⟨oc, od, .func (ksFn "__init__" qual params body scope dV kV doc pm an (.ref cda) ct cc), osl⟩ ∧ codeIn K (.ref cda) qual = true ∧ K.lookup cda = some ⟨ccl, cdd, .fields vs, ccs⟩ ∧ vs[2]? = some (.str file tf) ∧ ((P.main.file : Str) == file) = true ∧
    K.lookup cc = some ⟨cl, cld, .cell (some (.ref C)), csl⟩ ∧ (params.posonlyargs ++ params.args).head? = some ar ∧ ar.arg = "self" ∧
    (∀ (s : Shared) (us : List Value), us.length = fs.length + 1 → BindsTo s (ksFn "__init__" qual params body scope dV kV doc pm an (.ref cda) ct cc) ⟨us, []⟩ ((("self" : Str) :: fs).zip us)) ∧
    scope.names.lookup ("super" : Str) = some .globalImplicit ∧ scope.names.lookup ("__class__" : Str) = some .free ∧ (∀ y ∈ ("self" : Str) :: fs, scope.names.lookup y = some .local ∧ (y == ("__debug__" : Str)) = false) ∧ scope.kind = .function ∧
    (∀ y ∈ scope.names, y.2 ≠ .cell) ∧ scope.isCoroutine = false ∧ scope.isGenerator = false ∧ (("self" : Str) :: fs).Nodup ∧
    ∃ me p1 p2 p3 p4 p5, MsgAt me msg (fs.headD "") cat ∧ ((p3 : Pos).endLine == (p4 : Pos).line) = true ∧
      ((∃ f1 q1 q2 q3 q4, fs = [f1] ∧ body = [sup me p1 p2 p3 p4 p5, sto f1 q1 q2 q3 q4]) ∨ ∃ f1 q1 q2 q3 q4 f2 r1 r2 r3 r4, fs = [f1, f2] ∧ body = [sup me p1 p2 p3 p4 p5, sto f1 q1 q2 q3 q4, sto f2 r1 r2 r3 r4])
structure InitEnd (h h' : Heap) (x C : Addr) (fvs : List (Str × Value)) : Prop where
  keep : ∀ b o, b ≠ x → h.get? b = some o → h'.get? b = some o
  obj : ∃ dx t1, h'.get? x = some { cls := .ref C, dict := some dx, data := .fields #[.ref t1, .none, .none, .none, .bool false, .none] } ∧ h.objs.size ≤ dx ∧ dx ≠ x ∧ h'.Ns1 dx (nsF fvs)
structure OwnMade (h h' : Heap) (e C d : Addr) (fvs : List (Str × Value)) : Prop where
  keep : ∀ b o, h.get? b = some o → h'.get? b = some o
  new : h.objs.size ≤ e
  obj : ∃ oe vs, h'.get? e = some oe ∧ oe.cls = .ref C ∧ oe.dict = some d ∧ oe.data = .fields vs ∧ vs[1]? = some .none ∧ vs[2]? = some .none
  dbig : h.objs.size ≤ d
  dne : d ≠ e
  ns : h'.Ns1 d (nsF fvs)
section
variable {P : Program} {w : World} {A : Around} {E : Value → Shared → Prop} {R : Result → Shared → Prop} {s : Shared} {K : Frag} {mg mb : Str → Option Value} {C fI x t0 : Addr} {nm msg : Str} {fs : List Str} {cat : Bool}
theorem msg_eval {q : Str} {scope : Scope} {L f cda cc : Addr} {m : Str → Option Value} {me : PySem.Expr} {f1 : Str} {v1 : Value} (h : MsgAt me msg f1 cat) (k : MsgOk msg v1 cat) (hv : m f1 = some v1) (hk : scope.kind = .function) (hl : scope.names.lookup f1 = some .local) (hd : (f1 == ("__debug__" : Str)) = false) :
    ∃ z : Str, ∀ (s1 : Shared) (Q1 : Value → Shared → Prop), s1.heap.Ns L m → (∀ tk tk', Q1 (.str z tk) { s1 with toks := tk' }) → wpAny (model P w) A (eval me (ksEnv q scope L f (.ref cda) cc)) Q1 E s1 := by
  cases cat with
  | false =>
    obtain ⟨i, p, rfl⟩ := h
    exact ⟨msg, fun s1 Q1 _ q => Calls.Constant_str (q _ _)⟩
  | true =>
    obtain ⟨i, p, p', p'', rfl⟩ := h
    obtain ⟨y, t, rfl, z⟩ := k
    exact ⟨msg ++ y, fun s1 Q1 hn q => wpAny_BinOp (Calls.Constant_str (ldK hn hv hk hl hd (add_str (fun t' tk => q t' tk) z)))⟩

theorem sup_ev {env : PySem.Env} {me : PySem.Expr} {f1 : Str} {p1 p2 p3 p4 : Pos} (h : MsgAt me msg f1 cat) (hp : (p3.endLine == p4.line) = true) :
    ∃ pl : Sem Bool, eval (.Call (.Attribute (.Call (.Name "super" p1) [] [] p2) "__init__" p3) [me] [] p4) env = (do
      let ov ← attributeBase (.Call (.Name "super" p1) [] [] p2) "__init__" env (eval (.Call (.Name "super" p1) [] [] p2) env)
      standAt p3.atName
      let (g, first) ← holding [ov] (getMethod ov "__init__" pl)
      callWith p4 g first (backTo p4 (starEach [me] env)) []) := by
  have hf : methodCallForm 1 (backTo p4 (starEach [me] env)) (backToKw p4 (keywordEach [] env)) = true := by
    cases cat with
    | false => obtain ⟨i, p, rfl⟩ := h; rfl
    | true => obtain ⟨i, p, p', p'', rfl⟩ := h; rfl
  have e : eval (.Call (.Attribute (.Call (.Name "super" p1) [] [] p2) "__init__" p3) [me] [] p4) env = (do
      let ov ← attributeBase (.Call (.Name "super" p1) [] [] p2) "__init__" env (eval (.Call (.Name "super" p1) [] [] p2) env)
      standAt p3.atName
      methodCall (.Call (.Name "super" p1) [] [] p2) "__init__" p3 p4 env ov 1 (backTo p4 (starEach [me] env)) (backToKw p4 (keywordEach [] env))) := by
    cases cat with
    | false => obtain ⟨i, p, rfl⟩ := h; rfl
    | true => obtain ⟨i, p, p', p'', rfl⟩ := h; rfl
  refine ⟨do return (← importBound (.Call (.Name "super" p1) [] [] p2) env).getD true, e.trans ?_⟩
  unfold methodCall methodCallPos calleeOf
  simp only [hf, hp, Bool.not_true, Bool.false_or, if_true]
  rfl
theorem sup_st {env : PySem.Env} {me : PySem.Expr} {f1 : Str} (h : MsgAt me msg f1 cat) : starEach [me] env = [(false, eval me env)] := by
  cases cat with
  | false => obtain ⟨i, p, rfl⟩ := h; rfl
  | true => obtain ⟨i, p, p', p'', rfl⟩ := h; rfl
theorem sup_sw {env : PySem.Env} {me : PySem.Expr} {f1 : Str} {p1 p2 p3 p4 : Pos} {n : Nat} (h : MsgAt me msg f1 cat) : swapsWith (.Call (.Attribute (.Call (.Name "super" p1) [] [] p2) "__init__" p3) [me] [] p4) none n env = pure false := by
  cases cat with
  | false => obtain ⟨i, p, rfl⟩ := h; rfl
  | true => obtain ⟨i, p, p', p'', rfl⟩ := h; rfl
theorem err_init (T : ErrTxt P K mg nm fs cat msg C fI) {vs : List Value} (hl : vs.length = fs.length) (hv : ∀ v1, vs.head? = some v1 → MsgOk msg v1 cat) (X : K.In s.heap) (hlim : s.heap.NoLimit) (G : s.heap.Ns mainGlobals mg) (B : s.heap.Ns builtinsNs mb) (hSb : mb "super" = some (.type "super"))
    (hx : s.heap.get? x = some (excO C t0)) (hnx : K.lookup x = none) (hroom : A.depth < recursionLimit)
    (hq : ∀ h' tk, InitEnd s.heap h' x C (fs.zip vs).reverse → R (.ok (.ret .none)) { s with heap := h', toks := tk }) :
    codeAny (model P w) A (.call (.ref fI) ⟨.ref x :: vs, []⟩) R s := by
  obtain ⟨qual, params, body, scope, dV, kV, doc, pm, ct, oc, ccl, cl, an, od, cdd, cld, osl, ccs, csl, cda, cc, cvs, file, tf, ar, hf, hcd, hcode, hvs, hfile, hcell, hp, har, hbind, hks, hkc, hloc, hk, hnc, hco, hgen, hnod, me, p1, p2, p3, p4, p5, hme, hpos, hb⟩ := T.fn
  obtain ⟨cd, hC, hve, hhd⟩ := T.ve
  have hself := hloc "self" List.mem_cons_self
  have hbs := hbind s (.ref x :: vs) (by rw [List.length_cons, hl])
  refine ks_codeAny_call_defAt (fd := ksFn "__init__" qual params body scope dV kV doc pm an (.ref cda) ct cc) (body := body) (binds := (("self" : Str) :: fs).zip (.ref x :: vs)) hroom (X _ _ hf) rfl hlim (codeRec_of X hcd) rfl hbs hnc
    (fun y hy => (hloc y.1 (List.of_mem_zip hy).1).1) (fun h₁ hn hk₁ => ?_) hco hgen hk
  have X1 : K.In h₁ := X.keeps hk₁
  have x1 := hk₁ _ _ hx
  have hxL : x ≠ s.heap.objs.size := Nat.ne_of_lt (Heap.lt_size hx)
  have G1 : h₁.Ns mainGlobals mg := G.keeps hk₁
  have B1 : h₁.Ns builtinsNs mb := B.keeps hk₁
  have sz : s.heap.objs.size ≤ h₁.objs.size := Nat.le_of_lt hn.lt
  have Xb : ∀ {h' : Heap}, (∀ b o, b ≠ x → h₁.get? b = some o → h'.get? b = some o) → K.In h' := fun k a o e => k a o (fun z => by rw [z, hnx] at e; cases e) (X1 a o e)
  show _root_.PySem.wpAt (model P w) (A.deeper (ksEnv qual scope s.heap.objs.size fI (.ref cda) cc)) (.func body (ksEnv qual scope s.heap.objs.size fI (.ref cda) cc)) (execs body (ksEnv qual scope s.heap.objs.size fI (.ref cda) cc)) _ _ _
  obtain ⟨pl, hev⟩ := sup_ev (env := ksEnv qual scope s.heap.objs.size fI (.ref cda) cc) (p1 := p1) (p2 := p2) (p3 := p3) (p4 := p4) hme hpos
  have hst := sup_st (env := ksEnv qual scope s.heap.objs.size fI (.ref cda) cc) hme
  have hsw := sup_sw (env := ksEnv qual scope s.heap.objs.size fI (.ref cda) cc) (p1 := p1) (p2 := p2) (p3 := p3) (p4 := p4) (n := p5.line) hme
  rcases hb with ⟨f1, q1, q2, q3, q4, rfl, rfl⟩ | ⟨f1, q1, q2, q3, q4, f2, r1, r2, r3, r4, rfl, rfl⟩
  · match vs, hl with
    | [v1], _ =>
      have n1 : ¬ ("self" : Str) = f1 := fun z => (List.nodup_cons.mp hnod).1 (by rw [z]; exact List.mem_cons_self)
      have l1 := hloc f1 (List.mem_cons_of_mem _ List.mem_cons_self)
      have mS : List.lookup ("self" : Str) ((([("self" : Str), f1] : List Str).zip [Value.ref x, v1]).reverse) = some (Value.ref x) := by
        have e : (("self" : Str) == f1) = false := by simpa using n1
        simp [List.lookup, e]
      have m1 : List.lookup f1 ((([("self" : Str), f1] : List Str).zip [Value.ref x, v1]).reverse) = some v1 := by simp [List.lookup]
      obtain ⟨z, hz⟩ := msg_eval (P := P) (w := w) (A := A.deeper (ksEnv qual scope s.heap.objs.size fI (.ref cda) cc)) (E := fun e s' => wpAny (model P w) (A.deeper (ksEnv qual scope s.heap.objs.size fI (.ref cda) cc)) (leaving (ksEnv qual scope s.heap.objs.size fI (.ref cda) cc) e) (fun _ s'' => R (.error e) s'') (fun e' s'' => R (.error e') s'') s')
        (q := qual) (scope := scope) (L := s.heap.objs.size) (f := fI) (cda := cda) (cc := cc) (m := fun y => List.lookup y ((([("self" : Str), f1] : List Str).zip [Value.ref x, v1]).reverse)) (f1 := f1) hme (hv v1 rfl) m1 hk l1.1 l1.2
      refine ks_wpAt_execs_cons (sup_step X1 hn mS x1 hxL G1 T.gS B1 hSb hf hp har hcode hvs hfile hcell hC T.me T.veC T.up T.cs T.ex hks hkc hself.1 hk T.top hz hst hsw (by unfold interactive; rw [show (ksEnv qual scope s.heap.objs.size fI (.ref cda) cc).scope.kind = ScopeKind.function from hk]; rfl) hev fun h2 tk2 t1 k2 x2 n2 => ?_)
      refine wpAt_of_wpAny (wpAny_execs_cons (sto_first (Xb k2) n2 x2 mS m1 hk hself.1 l1.1 l1.2 T.sa hC hve hhd (T.noN f1 List.mem_cons_self) rfl fun h3 tk3 dx k3 dn dne x3 hns => ?_))
      refine wpAny_execs_nil (hq h3 tk3 ⟨fun b o hb e => k3 b o hb (k2 b o hb (hk₁ b o e)), dx, t1, x3, ?_, dne, hns⟩)
      have : s.heap.objs.size < h2.objs.size := n2.lt
      have d' : h2.objs.size ≤ dx := dn
      omega
  · match vs, hl with
    | [v1, v2], _ =>
      have n1 : ¬ ("self" : Str) = f1 := fun z => (List.nodup_cons.mp hnod).1 (by rw [z]; exact List.mem_cons_self)
      have n2 : ¬ ("self" : Str) = f2 := fun z => (List.nodup_cons.mp hnod).1 (by rw [z]; exact List.mem_cons_of_mem _ List.mem_cons_self)
      have n3 : ¬ f1 = f2 := fun z => (List.nodup_cons.mp (List.nodup_cons.mp hnod).2).1 (by rw [z]; exact List.mem_cons_self)
      have l1 := hloc f1 (List.mem_cons_of_mem _ List.mem_cons_self)
      have l2 := hloc f2 (List.mem_cons_of_mem _ (List.mem_cons_of_mem _ List.mem_cons_self))
      have e1 : (("self" : Str) == f1) = false := by simpa using n1
      have e2 : (("self" : Str) == f2) = false := by simpa using n2
      have e3 : (f1 == f2) = false := by simpa using n3
      have mS : List.lookup ("self" : Str) ((([("self" : Str), f1, f2] : List Str).zip [Value.ref x, v1, v2]).reverse) = some (Value.ref x) := by
        simp [List.lookup, e1, e2]
      have m1 : List.lookup f1 ((([("self" : Str), f1, f2] : List Str).zip [Value.ref x, v1, v2]).reverse) = some v1 := by simp [List.lookup, e3]
      have m2 : List.lookup f2 ((([("self" : Str), f1, f2] : List Str).zip [Value.ref x, v1, v2]).reverse) = some v2 := by simp [List.lookup]
      obtain ⟨z, hz⟩ := msg_eval (P := P) (w := w) (A := A.deeper (ksEnv qual scope s.heap.objs.size fI (.ref cda) cc)) (E := fun e s' => wpAny (model P w) (A.deeper (ksEnv qual scope s.heap.objs.size fI (.ref cda) cc)) (leaving (ksEnv qual scope s.heap.objs.size fI (.ref cda) cc) e) (fun _ s'' => R (.error e) s'') (fun e' s'' => R (.error e') s'') s')
        (q := qual) (scope := scope) (L := s.heap.objs.size) (f := fI) (cda := cda) (cc := cc) (m := fun y => List.lookup y ((([("self" : Str), f1, f2] : List Str).zip [Value.ref x, v1, v2]).reverse)) (f1 := f1) hme (hv v1 rfl) m1 hk l1.1 l1.2
      refine ks_wpAt_execs_cons (sup_step X1 hn mS x1 hxL G1 T.gS B1 hSb hf hp har hcode hvs hfile hcell hC T.me T.veC T.up T.cs T.ex hks hkc hself.1 hk T.top hz hst hsw (by unfold interactive; rw [show (ksEnv qual scope s.heap.objs.size fI (.ref cda) cc).scope.kind = ScopeKind.function from hk]; rfl) hev fun h2 tk2 t1 k2 x2 nn2 => ?_)
      refine wpAt_of_wpAny (wpAny_execs_cons (sto_first (Xb k2) nn2 x2 mS m1 hk hself.1 l1.1 l1.2 T.sa hC hve hhd (T.noN f1 List.mem_cons_self) rfl fun h3 tk3 dx k3 dn dne x3 hns => ?_))
      have d' : h2.objs.size ≤ dx := dn
      have lt2 : s.heap.objs.size < h2.objs.size := nn2.lt
      have hdn : h₁.get? dx = none := by
        cases e : h₁.get? dx with
        | none => rfl
        | some o =>
          exact absurd (Heap.lt_size (k2 dx o dne e)) (Nat.not_lt.mpr d')
      have n3' : h3.Ns s.heap.objs.size _ := ns_keep nn2 fun o e => k3 _ _ (Ne.symm hxL) e
      refine wpAny_execs_cons (sto_next (m0 := nsF [(f1, v1)]) (nl := [f1]) (s := { s with heap := h3, toks := tk3 }) (Xb fun b o hb e => k3 b o hb (k2 b o hb e)) n3' x3 hns (nsF_within [(f1, v1)]) (by simp) mS m2 hk hself.1 l2.1 l2.2 T.sa hC hve hhd (T.noN f2 (List.mem_cons_of_mem _ List.mem_cons_self)) rfl fun h4 tk4 k4 hns4 => ?_)
      refine wpAny_execs_nil (hq h4 tk4 ⟨fun b o hb e => ?_, dx, t1, k4 _ _ (Ne.symm dne) x3, by omega, dne, hns4⟩)
      have e1' := hk₁ b o e
      exact k4 b o (fun z => by rw [z, hdn] at e1'; cases e1') (k3 b o hb (k2 b o hb e1'))
theorem err_made (T : ErrTxt P K mg nm fs cat msg C fI) {vs : List Value} (hl : vs.length = fs.length) (hz : vs.length ≤ sizeLine) (hv : ∀ v1, vs.head? = some v1 → MsgOk msg v1 cat) (X : K.In s.heap) (hlim : s.heap.NoLimit) (G : s.heap.Ns mainGlobals mg) (B : s.heap.Ns builtinsNs mb) (hSb : mb "super" = some (.type "super"))
    (hroom : A.depth + 1 < recursionLimit)
    (hq : ∀ h' tk e d, OwnMade s.heap h' e C d (fs.zip vs).reverse → R (.ok (.ret (.ref e))) { s with heap := h', toks := tk }) :
    codeAny (model P w) A (.call (.ref C) ⟨vs, []⟩) R s := by
  obtain ⟨nm', N, q, bs, bm, hdct, sn, sub, ab, col, dd, k0, k1, k2, k3, k5, hC, hT⟩ := excInit_of X T.ex
  obtain ⟨hp, g, dr, tk, os⟩ := s
  have k : ∀ b o, hp.get? b = some o → ((hp.push (kdv_tup vs)).push (excO C hp.objs.size)).get? b = some o := fun b o e => Heap.get?_push_of_some _ (Heap.get?_push_of_some _ e)
  have hget : ((hp.push (kdv_tup vs)).push (excO C hp.objs.size)).get? (hp.objs.size + 1) = some (excO C hp.objs.size) := by heap_get
  have hnx : K.lookup (hp.objs.size + 1) = none := by
    cases e : K.lookup (hp.objs.size + 1) with
    | none => rfl
    | some o =>
      have z : hp.get? (hp.objs.size + 1) = some o := X _ _ e
      exact absurd (Nat.lt_of_succ_lt (Heap.lt_size z)) (Nat.lt_irrefl _)
  refine call_own F.excBase_ValueError hT hC (looks_findIn X T.iC) (fun self => bind_fn X self T.tI) hz ?_
  refine err_init (s := ⟨(hp.push (kdv_tup vs)).push (excO C hp.objs.size), g, dr, tk, os⟩) T hl hv (X.keeps k) (hlim.keeps k) (G.keeps k) (B.keeps k) hSb hget hnx ?_ fun h' tk' ⟨k', dx, t1, hx, dn, dne, hns⟩ => ?_
  · show A.depth + 1 < recursionLimit
    exact hroom
  · have old : ∀ b o, hp.get? b = some o → h'.get? b = some o := fun b o e => k' b o (Nat.ne_of_lt (Nat.lt_succ_of_lt (Heap.lt_size e))) (k b o e)
    have z : hp.objs.size + 1 + 1 ≤ dx := by
      first
        | (simpa only [Heap.size_push] using dn)
        | exact dn
        | (have q := dn; rw [Heap.size_push, Heap.size_push] at q; exact q)
    exact ⟨rfl, hq h' tk' (hp.objs.size + 1) dx ⟨old, Nat.le_succ _, ⟨_, _, hx, rfl, rfl, rfl, rfl, rfl⟩, Nat.le_trans (Nat.le_trans (Nat.le_succ _) (Nat.le_succ _)) z, dne, hns⟩⟩
end
end MirE
end
section
set_option Elab.async false
set_option linter.all false
set_option maxRecDepth 100000
set_option maxHeartbeats 4000000
/-! Mir9: own errors: raise, try, what a suite asks of the error that it holds; defs called there. -/
namespace PySem.W
open PySem PySem.Spec PySem.Calls PyProof.Rows
section
variable {prog : Program} {w : World} {A : Around} {E : Value → Shared → Prop} {s : Shared} {K : Frag} {x D : Addr} {ox : Obj} {od : Option Obj}
theorem findObj_dataO {C : Addr} {name : Str} {a g : Value} (hc : (clsIn K C).isSome = true) (ha : findIn K (.ref C) name = some (some a)) (hg : specialIn K a "__get__" = some (some g)) (ht : takesIn K a = some true) : findObj K C od name = some (.bind g a) := by
  obtain ⟨cd, hc⟩ := Option.isSome_iff_exists.mp hc
  unfold findObj
  rw [hc, Option.bind_some, ha, Option.bind_some]
  simp [hg, ht]
theorem kin_classO {Q : Option Value → Shared → Prop} (T : L2.ExcC K D) (X : K.In s.heap) (I : InstAt s.heap x ox D od) (h : Q (some (.ref D)) { s with toks := s.toks + 1 }) : wpAny (model prog w) A (getAttr? (.ref x) "__class__") Q E s := by
  have hf : findObj K D od "__class__" = some (.bind (.builtin "getset_descriptor.__get__") (.builtin "object.__class__")) := findObj_dataO (by obtain ⟨cd, hc, _⟩ := any_some T.hd; rw [hc]; rfl) T.ha T.hn T.ht
  obtain ⟨hp, g, d, t, os⟩ := s
  have L0 := I.type (M := model prog w)
  have L1 := looks_findIn (M := model prog w) X T.hg
  have L2 := looks_findIn (M := model prog w) X T.hk
  have L3 := looks_find (M := model prog w) X I hf
  have sub : Looks (model prog w) hp (isInstance (.ref x) (.type "BaseException")) true := L0.andThen (looks_subIn X T.hs)
  have hx0 : (false && onTheHeap (Value.builtin "BaseException.__getattribute__")) = false := rfl
  have hx2 : (Value.builtin "BaseException.__getattribute__" == Value.builtin "object.__getattribute__") = false := by decide +kernel
  have hx1 : (onTheHeap (Value.ref D) && Value.builtin "BaseException.__getattribute__" == Value.builtin "object.__getattribute__") = false := by rw [hx2]; rfl
  unfold getAttr? getAttrBy? getAttrBy
  refine wpAny_bind (wpAny_mkText (wpAny_bind (wpAny_attempt (wpAny_holding (wpAny_bind (L0.at (wpAny_bind (L1.at ?_))))))))
  show wpAny _ _ (if (onTheHeap (Value.ref D) && Value.builtin "BaseException.__getattribute__" == Value.builtin "object.__getattribute__") = true then _ else _) _ _ _
  rw [hx1, if_neg Bool.false_ne_true]
  unfold getAttrByItsOwn hookBefore
  refine wpAny_bind ?_
  rw [if_pos (show onTheHeap (Value.ref D) = true from rfl)]
  refine L2.at ?_
  refine wpAny_bind (wpAny_attempt (wpAny_holding ?_))
  unfold callGetattribute
  rw [hx0, if_neg Bool.false_ne_true]
  unfold boundAndCalled
  rw [PySem.F.excAttr_ValueError.ga.bind (.ref x)]
  refine wpAny_bind (wpAny_pure ?_)
  show wpAny _ _ (call (.builtin "BaseException.__getattribute__") [.ref x, .str "__class__" t]) _ _ _
  refine wpAny_call (codeAny_call_builtin PySem.F.excAttr_ValueError.ga.plain PySem.F.entry_bexc_ga ?_)
  refine @check_slot (model prog w) _ _ ⟨hp, g, d, t + 1, os⟩ "BaseException.__getattribute__" "BaseException" "__getattribute__" (.ref x) [.str "__class__" t] [] _ (by decide +kernel) (by decide +kernel) sub (PySem.F.args_bexc_ga (.ref x) (.str "__class__" t)) ?_
  unfold Builtin.«object.__getattribute__»
  refine wpAny_bind (wpAny_of_eq (a := ((Value.ref x : Value), [Value.str "__class__" t])) (by first | rfl | (simp only [slotArgs]; rfl)) ?_)
  refine wpAny_bind (wpAny_pure (wpAny_bind (L0.at (wpAny_bind (L3.at ?_)))))
  show wpAny _ _ (holding [Value.builtin "object.__class__"] (call (.builtin "getset_descriptor.__get__") [.builtin "object.__class__", .ref x, .ref D]) >>= ret) _ _ _
  refine wpAny_bind (wpAny_holding (wpAny_call (class_get (s := ⟨hp, g, d, t + 1, os⟩) (ox := ox) (od := od) X I T.hm ?_)))
  refine wpAny_pure ?_
  show wpAny _ _ (handedOut (.ref D)) _ _ _
  rw [handedOut_of (v := .ref D) rfl]
  first
    | exact wpAny_pure (wpAny_pure h)
    | exact wpAny_pure h
    | exact wpAny_pure (wpAny_bind (wpAny_pure (wpAny_pure h)))
theorem kitx_excO (T : L2.ExcC K D) : KitX K (.ref x) (.ref D) (fun h => InstAt h x ox D od) where
  ty := fun _ _ _ I => I.type
  it := fun _ _ X _ => by
    obtain ⟨cdD, hcD, _⟩ := any_some T.hd
    unfold clsIn at hcD
    split at hcD
    · rename_i c' d' cd' sl' ho
      intro A' Q' E' s' k q
      unfold isType loadHead
      exact wpAny_bind (wpAny_loadPart (k _ _ (X _ _ ho)) (wpAny_pure q))
    · cases hcD
  ne := fun h tp dd its n sl X htp => by
    obtain ⟨cdD, hcD, _⟩ := any_some T.hd
    refine Bool.eq_false_iff.mpr fun q => ?_
    have e : D = tp := Value.ref.inj (beq_iff_eq.mp q)
    subst e
    unfold clsIn at hcD
    split at hcD
    · rename_i c' d' cd' sl' ho
      have z := (X _ _ ho).symm.trans htp
      cases z
    · cases hcD
  ca := fun X I k => kin_classO T X I k
end
end PySem.W
namespace L2
open PySem PySem.Spec PyProof.Rows
section
variable {X : Cx} {nm msg : Str} {fs : List Str} {cat : Bool} {C fI : Addr}
/-- C(e, ..): an own error is made -/
def tMkErr (C : Addr) (fs : List Str) (msg : Str) (cat : Bool) (ta : TA) : St → Hp → XK → Prop := fun σ H Q => ta σ H fun vs H1 => vs.length = fs.length ∧ (cat = true → ∃ y r, vs = .str y :: r ∧ msg.length + y.length ≤ sizeLine) ∧
  ∀ d, H1 d = none → Q (.ref C) (some d) (upd H1 d (.xd (fs.zip vs)))
theorem relO_none {o : Option Value} (h : o = none) : RelO none o := by rw [h]; trivial
theorem relO_err (T : MirE.ErrTxt X.prog X.K X.mg nm fs cat msg C fI) {vs : List V} {us : List Value} (r : Vals vs us) (l : vs.length = fs.length) (f : Str) : RelO ((fs.zip vs).lookup f) (MirE.nsF (fs.zip us).reverse f) := by
  obtain ⟨qual, params, body, scope, dV, kV, doc, pm, ct, oc, ccl, cl, an, od, cdd, cld, osl, ccs, csl, cda, cc, cvs, file, tf, ar, hf, hcd, hcode, hvs, hfile, hcell, hp, har, hbind, hks, hkc, hloc, hk, hnc, hco, hgen, hnod, me, p1, p2, p3, p4, p5, hme, hpos, hb⟩ := T.fn
  rcases hb with ⟨f1, q1, q2, q3, q4, rfl, _⟩ | ⟨f1, q1, q2, q3, q4, f2, r1, r2, r3, r4, rfl, _⟩
  · cases r with
    | nil => cases l
    | cons rv rn =>
      cases rn with
      | cons _ _ => cases l
      | nil =>
        by_cases e : f = f1
        · subst e
          simp [List.lookup, MirE.nsF]
          exact rv
        · have e2 : (f == f1) = false := by simpa using e
          simp [List.lookup, MirE.nsF, e, e2]
          trivial
  · have n3 : f1 ≠ f2 := fun z => (List.nodup_cons.mp (List.nodup_cons.mp hnod).2).1 (by rw [z]; exact List.mem_cons_self)
    cases r with
    | nil => cases l
    | cons rv rn =>
      cases rn with
      | nil => cases l
      | cons rw' rn =>
        cases rn with
        | cons _ _ => cases l
        | nil =>
          by_cases e : f = f1
          · subst e
            simp [List.lookup, MirE.nsF, n3]
            exact rv
          · have e2 : (f == f1) = false := by simpa using e
            by_cases e3 : f = f2
            · subst e3
              simp [List.lookup, MirE.nsF, e2]
              exact rw'
            · have e4 : (f == f2) = false := by simpa using e3
              simp [List.lookup, MirE.nsF, e, e2, e3, e4]
              trivial
theorem pmk_err {a : Expr} {es : List Expr} {ta : TA} {p pos : Pos} {k : Nat} (T : MirE.ErrTxt X.prog X.K X.mg nm fs cat msg C fI) (hr : Room k X.A) (ha : PA X (a :: es) ta) (hg : Gl X nm := by rfl) (hdb : (nm == ("__debug__" : Str)) = false := by decide)
    (he : starEach (a :: es) X.env = (false, eval a X.env) :: starEach es X.env := by rfl) (hpl : (backTo pos (starEach es X.env)).any (·.1) = false := by rfl) :
    L2N.PMk X (.Call (.Name nm p) (a :: es) [] pos) (tMkErr C fs msg cat ta) := by
  intro pins s σ H Q I h
  refine wpAny_Call_Name_kw (ld_glob I hg T.gC ?_ hdb)
  refine PySem.W.callWith_K (h₀ := X.base) I.ok.mod.kin T.kC (thn (ha.run pos pins s σ H _ I h) fun us s1 hh => ?_) he hpl
  obtain ⟨vs, H1, I1, r1, l, hm, q1⟩ := hh
  refine ⟨I1.kIn, ?_⟩
  show wpAny _ _ (call (.ref C) us) _ _ _
  have hlim := I1.nolimit
  obtain ⟨mb, hB, hbb⟩ := I1.mod.blt
  have hSb : mb "super" = some (.type "super") := (hbb "super" (by decide)).trans (by first | boot_by_name | rfl | kernel_rfl)
  have hbs := I1.bk
  have hG := I1.mod.glob
  have hl : us.length = fs.length := by rw [← r1.length, l]
  have hmo : ∀ v1, us.head? = some v1 → MirE.MsgOk msg v1 cat := fun v1 e => by
    cases cat with
    | false => trivial
    | true =>
      obtain ⟨y, r, ev, z⟩ := hm rfl
      subst ev
      cases r1 with
      | cons rv _ =>
        obtain ⟨t, ev⟩ := rv
        cases e
        exact ⟨y, t, ev, z⟩
  have hsz : us.length ≤ sizeLine := by
    rw [hl, PySem.sizeLine_eq]
    obtain ⟨qual, params, body, scope, dV, kV, doc, pm, ct, oc, ccl, cl, an, od, cdd, cld, osl, ccs, csl, cda, cc, cvs, file, tf, ar, hf, hcd, hcode, hvs, hfile, hcell, hp, har, hbind, hks, hkc, hloc, hk, hnc, hco, hgen, hnod, me, p1, p2, p3, p4, p5, hme, hpos, hb⟩ := T.fn
    rcases hb with ⟨f1, q1, q2, q3, q4, rfl, _⟩ | ⟨f1, q1, q2, q3, q4, f2, r1, r2, r3, r4, rfl, _⟩
    · show 1 ≤ 16777216
      omega
    · show 2 ≤ 16777216
      omega
  obtain ⟨hp, g, dr, tk, os⟩ := s1
  refine wpAny_call (MirE.err_made (s := ⟨hp, g, dr, tk, os⟩) T hl hsz hmo I1.kIn hlim (hG.keeps hbs) (hB.keeps hbs) hSb (by have := hr.dp; omega) fun h' tk' e d M => ?_)
  show L2N.MkP X pins σ Q (.ref e) ⟨h', g, dr, tk', os⟩
  obtain ⟨oe, fv, hoe, hc, hd, hdat, h1, h2⟩ := M.obj
  have hns := M.ns
  obtain ⟨G', g1, g2⟩ := restrict h' fun b => decide (b ≠ e)
  have gk : ∀ b, b ≠ e → G'.get? b = h'.get? b := fun b hb => g1 b (decide_eq_true hb)
  have ge : G'.get? e = none := g2 e (by simp)
  have old : ∀ b o, hp.get? b = some o → G'.get? b = some o := fun b o q => (gk b (Nat.ne_of_lt (Nat.lt_of_lt_of_le (Heap.lt_size q) M.new))).trans (M.keep b o q)
  have ob : ObjOk X.prog X.w (upd H1 d (.xd (fs.zip vs))) G' d (.xd (fs.zip vs)) :=
    ⟨_, hns.at (fun o q => (gk d M.dne).trans q), fun f => relO_err T r1 l f⟩
  have J : Inv X pins σ (upd H1 d (.xd (fs.zip vs))) ⟨G', g, dr, tk', os⟩ := I1.laid (t' := tk') old M.dbig ob
  refine ⟨e, oe, fv, ⟨G', g, dr, tk', os⟩, _, .ref C, some d, rfl, J, fun b o q => ?_, ge, hoe, ⟨hc, hd, fun vs e => by rw [hdat] at e; cases e; exact h2⟩, hdat, h1, ?_, rfl, I1.bare, raises_own T.exC T.tyC, q1 d (I1.hok.fresh M.dbig)⟩
  · by_cases hb : b = e
    · have q' : G'.get? b = some o := q
      rw [hb, ge] at q'; cases q'
    · exact (gk b hb).symm.trans q
  · rw [upd_ne (Ne.symm M.dne)]
    exact I1.hok.fresh M.new
end
end L2

namespace Mir
open PySem PySem.Spec PyProof.Rows L2
section
variable {c : Cn} {EX : XW}
/-! ### raise -/
def catOk (msg : Str) : List D → Bool
  | .str y :: _ => decide (msg.length + y.length ≤ sizeLine)
  | _ => false
def raiseErr (nm : Str) (fs : List Str) (msg : Str) (cat : Bool) (f : M (List D)) : M Flw := do
  let ds ← f
  if ds.length = fs.length ∧ ((!cat) || catOk msg ds) = true then raiseM ⟨nm, fs, ds⟩ else badM
theorem SOk.raise {nm msg : Str} {fs : List Str} {cat : Bool} {C : Addr} {t : TA} {f : M (List D)} (h : TaOk c EX t f) (hc : c.cls nm = some C) : SOk c EX [] (fun _ σ H => tMkErr C fs msg cat t σ H fun cls d H' => EX σ cls d H') (raiseErr nm fs msg cat f) := fun H σ ρ T Dn ft gd p => by
  refine h H σ ρ T _ ft gd ((bind_post.mp p).imp (fun ds ρ1 q vs H1 l f1 g1 => ?_) fun _ _ q => q σ .refl)
  by_cases k : ds.length = fs.length ∧ ((!cat) || catOk msg ds) = true
  · rw [if_pos k] at q
    have q' : XPostS c EX [] T σ ⟨nm, fs, ds⟩ ρ1 := q
    refine ⟨l.trans k.1, fun hcat => ?_, fun d hd => ?_⟩
    · subst hcat
      have k2 := k.2
      match ds, vs, l, k2, g1 with
      | .str y :: _, v :: r, _, k2, g1 =>
        have e : v = .str y := Good.isS (L := r.zip _ ++ (T ++ sl σ ρ1)) g1
        exact ⟨y, r, by rw [e], of_decide_eq_true k2⟩
    · refine q' σ .refl _ _ _ f1 ⟨C, d, vs, rfl, hc, rfl, upd_same, l, k.1.symm, ?_⟩
      have g2 := (g1.fresh hd (by simp)).step (H' := upd H1 d (.xd (fs.zip vs))) List.mem_cons_self (fun b hb => upd_ne hb) fun xs qq => by
        rcases qq with qq | qq
        · rcases qq with qq | ⟨o, qq⟩ <;> rw [hd] at qq <;> cases qq
        · exact .inr qq
      obtain ⟨Z, fp, h, nd, nz, zt⟩ := g2
      have s : (fp ++ ([] : List Addr)).Sublist (fp ++ [d]) := List.Sublist.append (.refl _) (List.nil_sublist _)
      exact ⟨Z, fp, h, nd.sublist s, fun a ha => nz a (s.subset ha), zt⟩
  · rw [if_neg k] at q
    exact q.elim

/-! ### an error that a suite holds -/
/-- what the written part says of the errors: their classes, fields -/
abbrev ETab := List (Str × List Str)
structure ETxt (K : PySem.W.Frag) (cls : Str → Option Addr) (et : ETab) : Prop where
  ok : ∀ p ∈ et, ∀ A, cls p.1 = some A → ExcC K A ∧ XfC K A ∧ ∀ f ∈ p.2, PySem.W.findIn K (.ref A) f = some none
def Cn.hold (c : Cn) (a dd : Addr) (x : Exn) : Cn := { c with kp := (dd, x.fs, x.xs) :: c.kp, ea := some a }
/-- the exception at a, of the class cls, its dict at d, is x -/
structure Held (c : Cn) (x : Exn) (a : Addr) (cls : Value) (d : Option Addr) : Prop where
  ea : c.ea = some a
  at' : ∃ A dd, cls = .ref A ∧ c.cls x.cls = some A ∧ d = some dd ∧ (dd, x.fs, x.xs) ∈ c.kp
/-- isinstance(error, C) -/
def rIsX (K : PySem.W.Frag) (a : Addr) (cls : Value) (d : Option Addr) : List V → Hp → VK → Prop := fun xs H Q => ∃ (A dd : Addr) (fs : List (Str × V)) (v : V) (cv : Value) (b : Bool), xs = [.ref a, v] ∧ cls = .ref A ∧ d = some dd ∧ ExcC K A ∧ H dd = some (.xd fs) ∧ (∀ u, RelV v u → u = cv) ∧
  PySem.W.kitOne K (.ref A) cv = some b ∧ Q (.bl b) H
theorem xd_inst {X : Cx} {pins : List (Addr × Obj)} {σ : L2.St} {H : Hp} {s : Shared} {a A dd : Addr} {oe : Obj} {fs : List (Str × V)} (I : Inv X pins σ H s) (hp : (a, oe) ∈ X.pn) (hz : Zc (.ref A) (some dd) oe) (hf : ∃ vs, oe.data = .fields vs) (e : H dd = some (.xd fs)) :
    ∃ (od : Obj) (mA : Str → Option Value), PySem.W.InstAt s.heap a oe A (some od) ∧ (∀ name, PySem.W.lookIn name od = some (mA name)) ∧ ∀ f, RelO (fs.lookup f) (mA f) := by
  obtain ⟨ha, _⟩ := I.pin (a, oe) (List.mem_append_left _ hp)
  obtain ⟨vs, hd⟩ := hf
  have hx : ObjOk X.prog X.w H s.heap dd (.xd fs) := I.hok dd _ e
  obtain ⟨mA, hns, hr⟩ := hx
  obtain ⟨od, ho, hl⟩ := lookIn_ns hns
  exact ⟨od, mA, ⟨ha, hz.1, by unfold PySem.W.notCls; rw [hd] <;> rfl, by rw [hz.2]; exact ho⟩, hl, hr⟩
theorem call_isX {X : Cx} {a : Addr} {oe : Obj} {cls : Value} {d : Option Addr} (hp : (a, oe) ∈ X.pn) (hz : Zc cls d oe) (hf : ∃ vs, oe.data = .fields vs) : CallR X (.builtin "isinstance") (rIsX X.K a cls d) := by
  intro pins s σ H xs us Q I r h
  obtain ⟨A, dd, fs, v, cv, b, rfl, rfl, rfl, T, e, hcv, ek, q⟩ := h
  cases r with
  | cons rx rr =>
    cases rr with
    | cons rt rr =>
      cases rr
      cases rx
      have ec := hcv _ rt
      subst ec
      obtain ⟨od, mA, J, _, _⟩ := xd_inst I hp hz hf e
      exact PySem.W.kia_one (PySem.W.kitx_excO T) I.kIn J ek (fun z => nomatch z) fun tk => ⟨.bl b, H, I.kept (t' := tk) fun _ _ z => z, rfl, q⟩
/-- error.f -/
def tXfA (K : PySem.W.Frag) (a : Addr) (cls : Value) (d : Option Addr) (f : Str) (te : TE) : TE := fun σ H Q => te σ H fun x H1 => x = .ref a ∧ ∃ (A dd : Addr) (fs : List (Str × V)) (v : V), cls = .ref A ∧ d = some dd ∧ XfC K A ∧ PySem.W.findIn K (.ref A) f = some none ∧ H1 dd = some (.xd fs) ∧ fs.lookup f = some v ∧ Q v H1
theorem pe_xfA {X : Cx} {a : Addr} {oe : Obj} {cls : Value} {d : Option Addr} {e : Expr} {te : TE} {pos : Pos} {n : Str} (hp : (a, oe) ∈ X.pn) (hz : Zc cls d oe) (hf : ∃ vs, oe.data = .fields vs) (he : PE X e te) (hb : attributeBase e n X.env (eval e X.env) = eval e X.env := by rfl) :
    PE X (.Attribute e n pos) (tXfA X.K a cls d n te) := by
  refine ⟨fun pins s σ H Q I h => ?_⟩
  refine attr_of hb (thn (he.run pins s σ H _ I h) fun u s1 hh => ?_)
  obtain ⟨x, H1, I1, rx, ex, A, dd, fs, v, ec, ed, T, hno, ea, l, q⟩ := hh
  subst ex ec ed
  obtain rfl : u = Value.ref a := rx
  obtain ⟨od, mA, J, hl, hr⟩ := xd_inst I1 hp hz hf ea
  obtain ⟨u, hu, ru⟩ := RelO.some_of (v := v) (o := mA n) (by rw [← l]; exact hr n)
  exact HandSPX.exc_get I1.kIn J T.ga T.gg T.exC (PySem.W.findObj_own T.hdC hno rfl (by rw [hl, hu])) (handed_of ru) ⟨v, H1, I1.tok _, ru, q⟩
def isxM (et : ETab) (x : Exn) (i : Nat) (ans : Str → Bool) : M D := do
  let d ← peek i
  if isx d = true ∧ (et.any fun p => p.1 == x.cls) = true then pure (.bl (ans x.cls)) else badM
theorem Held.xd {x : Exn} {a : Addr} {cls : Value} {d : Option Addr} (h : Held c x a cls d) {H : Hp} {R : List Addr} {L : List (V × D)} (g : Good c H R L) : ∃ A dd vs, cls = .ref A ∧ c.cls x.cls = some A ∧ d = some dd ∧ H dd = some (.xd (x.fs.zip vs)) ∧ vs.length = x.xs.length ∧ x.fs.length = x.xs.length ∧
    Good c H R (vs.zip x.xs ++ L) := by
  obtain ⟨A, dd, e1, e2, e3, hm⟩ := h.at'
  obtain ⟨Z, fp, ha, nd, nz, zt⟩ := g
  obtain ⟨vs, k1, k2, k3, k4⟩ := zt.kp _ hm
  exact ⟨A, dd, vs, e1, e2, e3, k1, RepL.len _ _ _ k4, k3, Z, [] ++ fp, RepA.append _ _ _ _ (RepL.all _ _ _ k4) ha, nd, nz, zt⟩
theorem et_mem {et : ETab} {nm : Str} (h : (et.any fun p => p.1 == nm) = true) : ∃ p ∈ et, p.1 = nm := by
  obtain ⟨p, hp, e⟩ := List.any_eq_true.mp h
  exact ⟨p, hp, by simpa using e⟩
theorem TOk.isX {et : ETab} {x : Exn} {a C : Addr} {cls : Value} {d : Option Addr} {i : Nat} {ans : Str → Bool} (hd : Held c x a cls d) (hT : ETxt c.K c.cls et) (hk : ∀ p ∈ et, ∀ A, c.cls p.1 = some A → PySem.W.kitOne c.K (.ref A) (.ref C) = some (ans p.1)) :
    TOk c EX (tCB (rIsX c.K a cls d) (tCons (tVar i) (tCons (tC (.ref C)) tNil))) (isxM et x i ans) := fun H σ ρ T Q f g h => by
  obtain ⟨e, e1, h1⟩ := peek_post.mp (bind_post.mp h)
  by_cases k : isx e = true ∧ (et.any fun p => p.1 == x.cls) = true
  · rw [if_pos k] at h1
    obtain ⟨a', ea', hs⟩ := f.exn i (by rw [e1, isx_eq k.1])
    rw [hd.ea] at ea'
    cases ea'
    obtain ⟨A, dd, vs, q1, q2, q3, q4, q5, q6, g2⟩ := hd.xd g
    obtain ⟨p, hp, ep⟩ := et_mem k.2
    refine ⟨_, hs, A, dd, _, .ref C, .ref C, ans x.cls, rfl, q1, q3, (hT.ok p hp A (by rw [ep]; exact q2)).1, q4, fun u hu => hu, ?_, h1 _ _ f (g.addB _)⟩
    rw [← ep]
    exact hk p hp A (by rw [ep]; exact q2)
  · rw [if_neg k] at h1
    exact h1.elim
def fldM (et : ETab) (x : Exn) (i : Nat) (f : Str) : M D := do
  let d ← peek i
  if isx d = true ∧ (et.any fun p => p.1 == x.cls && p.2.contains f) = true then optM (((x.fs.zip x.xs).lookup f).map fz) else badM
theorem lookup_zip : ∀ {fs : List Str} {vs : List V} {xs : List D} {f : Str} {d : D}, vs.length = xs.length → (fs.zip xs).lookup f = some d → ∃ (k : Nat) (v : V), vs[k]? = some v ∧ xs[k]? = some d ∧ (fs.zip vs).lookup f = some v
  | [], _, _, _, _, _, h => by simp [List.lookup] at h
  | _ :: _, [], [], _, _, _, h => by simp [List.lookup] at h
  | _ :: _, _ :: _, [], _, _, l, _ => by cases l
  | _ :: _, [], _ :: _, _, _, l, _ => by cases l
  | g :: fs, v :: vs, x :: xs, f, d, l, h => by
    rw [List.zip_cons_cons, List.lookup_cons] at h ⊢
    cases e : (f == g) with
    | true =>
      rw [e] at h
      cases h
      exact ⟨0, v, rfl, rfl, rfl⟩
    | false =>
      rw [e] at h
      obtain ⟨k, w, h1, h2, h3⟩ := lookup_zip (Nat.succ.inj l) h
      exact ⟨k + 1, w, h1, h2, h3⟩
theorem TOk.fld {et : ETab} {x : Exn} {a : Addr} {cls : Value} {d : Option Addr} {i : Nat} {n : Str} (hd : Held c x a cls d) (hT : ETxt c.K c.cls et) : TOk c EX (tXfA c.K a cls d n (tVar i)) (fldM et x i n) := fun H σ ρ T Q f g h => by
  obtain ⟨e, e1, h1⟩ := peek_post.mp (bind_post.mp h)
  by_cases k : isx e = true ∧ (et.any fun p => p.1 == x.cls && p.2.contains n) = true
  · rw [if_pos k] at h1
    obtain ⟨b, eb, h2⟩ := opt_post.mp h1
    obtain ⟨b0, eb0, rfl⟩ := Option.map_eq_some_iff.mp eb
    obtain ⟨a', ea', hs⟩ := f.exn i (by rw [e1, isx_eq k.1])
    rw [hd.ea] at ea'
    cases ea'
    obtain ⟨A, dd, vs, q1, q2, q3, q4, q5, q6, g2⟩ := hd.xd g
    obtain ⟨p, hp, ep⟩ := List.any_eq_true.mp k.2
    obtain ⟨ep1, ep2⟩ := Bool.and_eq_true_iff.mp ep
    have ep1' : p.1 = x.cls := by simpa using ep1
    have tx := hT.ok p hp A (by rw [ep1']; exact q2)
    obtain ⟨kk, v, hv1, hv2, hv3⟩ := lookup_zip q5 eb0
    have g3 := g2.at hv1 hv2
    exact ⟨_, hs, rfl, A, dd, _, v, q1, q3, tx.2.1, tx.2.2 n (by simpa using ep2), q4, hv3, h2 v _ f (g3.sub (List.Sublist.cons_cons _ (List.sublist_append_right _ _)))⟩
  · rw [if_neg k] at h1
    exact h1.elim
end
end Mir
end
section
set_option Elab.async false
set_option linter.all false
set_option maxRecDepth 100000
set_option maxHeartbeats 4000000
/-! Mir10: try .. except C as n; defs that are called within a suite. -/
namespace Mir
open PySem PySem.Spec PyProof.Rows L2
section
variable {c : Cn} {EX : XW}
def noExn (ρ : Env) : Bool := ρ.all fun o => match o with
  | some d => !isx d
  | none => true
theorem noExn_at {ρ : Env} {i : Nat} (h : noExn ρ = true) : ρ[i]? ≠ some (some .exn) := fun e => by
  have q := List.all_eq_true.mp h _ (List.mem_of_getElem? e)
  cases q
def exitM (i : Nat) : Out Flw → Out Flw
  | .ok fl ρ => if noExn (ρ.set i none) = true then .ok fl (ρ.set i none) else .bad
  | _ => .bad
def heldX (x : Exn) : Exn := ⟨x.cls, x.fs, fzL x.xs⟩
def tryM (i : Nat) (tbl : Str → Option Bool) (gb : M Flw) (gs : Exn → M Flw) : M Flw := fun ρ => match gb ρ with
  | .err x ρ1 => (match tbl x.cls with
    | some true => if i < ρ1.length then exitM i (gs (heldX x) (ρ1.set i (some .exn))) else .bad
    | some false => .err x ρ1
    | none => .bad)
  | o => o
theorem Good.unhold {a d : Addr} {x : Exn} {H : Hp} {R : List Addr} {L : List (V × D)} (g : Good (c.hold a d x) H R L) : Good c H R L := by
  obtain ⟨Z, fp, h, nd, nz, zt⟩ := g
  exact ⟨Z, fp, h, nd, nz, zt.at', fun p hp => zt.kp p (List.mem_cons_of_mem _ hp)⟩
theorem Good.hold {a d : Addr} {x : Exn} {H : Hp} {R : List Addr} {L : List (V × D)} {vs : List V} (g : Good c H R (vs.zip x.xs ++ L)) (hH : H d = some (.xd (x.fs.zip vs))) (hR : d ∉ R) (l1 : vs.length = x.xs.length) (l2 : x.fs.length = x.xs.length) :
    Good (c.hold a d (heldX x)) H R L := by
  obtain ⟨Z, fp, h, nd, nz, zt⟩ := g
  obtain ⟨f, g, h1, h2, e⟩ := RepA.split _ _ _ h
  subst e
  have h1' := RepA.toL _ _ _ l1 h1
  have nd' : (f ++ (g ++ R)).Nodup := by rw [← List.append_assoc]; exact nd
  have ap := (List.nodup_append.mp nd').2.2
  let Z' : Addr → Prop := fun b => (Z b ∨ b ∈ f) ∨ b = d
  have zz : ∀ b, Z b → Z' b := fun _ z => .inl (.inl z)
  have cm : ∀ fp, Cmp c.toCb Z H H fp := fun fp => ⟨fun _ _ _ r => r, fun _ _ _ _ e => e, fun _ _ => rfl, fun _ _ q => q⟩
  have nm : ∀ b, b ∈ f ++ g → b ≠ d := fun b hb e => by
    subst e
    rcases List.mem_append.mp hb with z | z
    · obtain ⟨o, e, m⟩ := RepL.there _ _ _ h1' b z
      rw [hH] at e; cases e; exact m
    · obtain ⟨o, e, m⟩ := RepA.there _ _ h2 b z
      rw [hH] at e; cases e; exact m
  refine ⟨Z', g, RepA.mono zz L g (cm g) h2, (List.nodup_append.mp nd').2.1, fun b hb z => ?_, ⟨fun b z => ?_, fun p hp => ?_⟩⟩
  · rcases z with (z | z) | z
    · exact nz b (by rw [List.append_assoc]; exact List.mem_append_right _ hb) z
    · exact ap b z b hb rfl
    · rcases List.mem_append.mp hb with y | y
      · exact nm b (List.mem_append_right _ y) z
      · exact hR (z ▸ y)
  · rcases z with (z | z) | z
    · exact zt.at' b z
    · obtain ⟨o, e, _⟩ := RepL.there _ _ _ h1' b z
      exact ⟨o, e⟩
    · subst z
      exact ⟨_, hH⟩
  · rcases List.mem_cons.mp hp with e | e
    · subst e
      exact ⟨vs, hH, .inr rfl, by show x.fs.length = (fzL x.xs).length; rw [fzL_len]; exact l2, RepL.freeze zz x.xs vs f (fun b hb => .inl (.inr hb)) h1'⟩
    · exact (zt.kp p e).mono zz (cm [])
theorem SOk.tryAs {tb : WX → TS} {ts : Addr → Value → Option Addr → TS} {Wb Ws : List Nat} {gb : M Flw} {gs : Exn → M Flw} {tbl : Str → Option Bool} {cE : Value} {i : Nat} (hc : c.ea = none) (hb : ∀ W : WX, SOk c (WE W) Wb (tb W) gb)
    (hs : ∀ a cls d dd x, Held (c.hold a dd x) x a cls d → SOk (c.hold a dd x) (fun _ _ _ _ => False) Ws (ts a cls d) (gs x)) (hx : ∀ nm A b, c.cls nm = some A → tbl nm = some b → PySem.W.exmOne c.K (.ref A) cE = some b) :
    SOk c EX (Wb ++ i :: Ws) (fun D σ H => tb (wAs c.K cE i ts (fun cls d σ H => EX σ cls d H) D) D σ H) (tryM i tbl gb gs) := fun H σ ρ T Dn ft gd p => by
  have l1 : ∀ j ∈ Wb, j ∈ Wb ++ i :: Ws := fun j z => List.mem_append_left _ z
  have l2 : ∀ j ∈ Ws, j ∈ Wb ++ i :: Ws := fun j z => List.mem_append_right _ (List.mem_cons_of_mem _ z)
  have l3 : ∀ j ∈ [i], j ∈ Wb ++ i :: Ws := fun j z => by
    rw [List.mem_singleton.mp z]
    exact List.mem_append_right _ List.mem_cons_self
  refine hb _ H σ ρ T Dn ft gd ?_
  unfold tryM at p
  cases e : gb ρ with
  | bad => rw [e] at p; exact p.elim
  | ok fl ρ1 =>
    rw [e] at p
    exact FPost.more p l1
  | err x ρ1 =>
    rw [e] at p
    intro σ1 a1 cls dd H1 f1 ax
    obtain ⟨A, d, fvs, rfl, hA, rfl, hH, q1, q2, g1⟩ := ax
    show ∃ b, PySem.W.exmOne c.K (.ref A) cE = some b ∧ _
    cases et : tbl x.cls with
    | none => simp only [et] at p; exact p.elim
    | some b =>
      refine ⟨b, hx _ _ _ hA et, fun hb a ha => ?_, fun hb => ?_⟩
      · subst hb
        simp only [et] at p
        by_cases hi : i < ρ1.length
        · rw [if_pos hi] at p
          have hd : Held (c.hold a d (heldX x)) (heldX x) a (.ref A) (some d) := ⟨rfl, A, d, rfl, hA, rfl, List.mem_cons_self⟩
          have hiσ : i < σ1.length := by rw [f1.len]; exact hi
          have f2 : Fit (c.hold a d (heldX x)) (σ1.set i (some (.ref a))) (ρ1.set i (some .exn)) := by
            refine ⟨by rw [List.length_set, List.length_set]; exact f1.len, fun j e h => ?_, fun j h => ?_⟩
            · by_cases q : i = j
              · subst q
                exact ⟨_, List.getElem?_set_self hiσ⟩
              · rw [List.getElem?_set_ne q] at h ⊢
                exact f1.has j e h
            · by_cases q : i = j
              · subst q
                exact ⟨a, rfl, List.getElem?_set_self hiσ⟩
              · rw [List.getElem?_set_ne q] at h
                obtain ⟨a', e', _⟩ := f1.exn j h
                rw [hc] at e'
                cases e'
          have g2 : Good (c.hold a d (heldX x)) H1 [] (T ++ sl (σ1.set i (some (.ref a))) (ρ1.set i (some .exn))) := by
            have g3 : Good (c.hold a d (heldX x)) H1 [] (T ++ sl σ1 ρ1) := Good.hold g1 hH (by simp) q1 q2
            have g4 : Good (c.hold a d (heldX x)) H1 [] ((.ref a, .exn) :: (T ++ sl σ1 (ρ1.set i none))) :=
              (g3.sub (List.Sublist.append (.refl T) sl_sub)).flat fun Z => ⟨⟨a, rfl⟩, rfl⟩
            exact (g4.perm List.perm_middle.symm).perm (List.Perm.append_left T (sl_store hi f1.len).symm)
          refine hs a (.ref A) (some d) d (heldX x) hd H1 _ _ T _ f2 g2 ?_
          cases eg : gs (heldX x) (ρ1.set i (some .exn)) with
          | bad => rw [eg] at p; exact p.elim
          | err y ρ2 => rw [eg] at p; exact p.elim
          | ok fl ρ2 =>
            rw [eg] at p
            simp only [exitM] at p
            by_cases hn : noExn (ρ2.set i none) = true
            · rw [if_pos hn] at p
              have back : ∀ {σ' : St} {H' : Hp} {L : List (V × D)}, Agr Ws (σ1.set i (some (.ref a))) σ' → Fit (c.hold a d (heldX x)) σ' ρ2 → Good (c.hold a d (heldX x)) H' [] (L ++ sl σ' ρ2) →
                  Agr (Wb ++ i :: Ws) σ (σ'.set i none) ∧ Fit c (σ'.set i none) (ρ2.set i none) ∧ Good c H' [] (L ++ sl (σ'.set i none) (ρ2.set i none)) := fun {σ' H' L} ag ff gg => by
                refine ⟨(((a1.more l1).same (Agr.set.more l3)).same (ag.more l2)).same (Agr.set.more l3), ⟨by rw [List.length_set, List.length_set]; exact ff.len, fun j e h => ?_, fun j h => absurd h (noExn_at hn)⟩, ?_⟩
                · by_cases q : i = j
                  · subst q
                    by_cases hj : i < ρ2.length
                    · rw [List.getElem?_set_self hj] at h; cases h
                    · rw [List.getElem?_eq_none (by rw [List.length_set]; omega)] at h; cases h
                  · rw [List.getElem?_set_ne q] at h ⊢
                    exact ff.has j e h
                · rw [sl_none]
                  exact (gg.sub (List.Sublist.append (.refl _) sl_sub)).unhold
              cases fl with
              | nx => exact fun σ' H' ag ff gg => by obtain ⟨x1, x2, x3⟩ := back ag ff gg; exact p _ H' x1 x2 x3
              | bk => exact fun σ' H' ag ff gg => by obtain ⟨x1, x2, x3⟩ := back ag ff gg; exact p _ H' x1 x2 x3
              | ct => exact fun σ' H' ag ff gg => by obtain ⟨x1, x2, x3⟩ := back ag ff gg; exact p _ H' x1 x2 x3
              | rt y => exact fun v σ' H' ag ff gg => by obtain ⟨x1, x2, x3⟩ := back (L := (v, y) :: T) ag ff gg; exact p v _ H' x1 x2 x3
            · rw [if_neg hn] at p
              exact p.elim
        · rw [if_neg hi] at p
          exact p.elim
      · subst hb
        simp only [et] at p
        exact p σ1 (a1.more l1) _ _ H1 f1 ⟨A, d, fvs, rfl, hA, rfl, hH, q1, q2, g1⟩
end

/-! ### defs that are called within a suite -/
structure FnS (P : Program) (w : World) (K : PySem.W.Frag) (mg : Str → Option Value) (base : Heap) (CX : CXT) (k : Nat) (f : Addr) (fd : FuncData) (ps : List Str) (sp : Sp) (p : Addr × Obj) : Prop where
  len : ∀ vs H Q E, sp vs H Q E → vs.length = ps.length
  run : ∀ (A : Around) (outer : List PySem.Env) (s : Shared) (H : Hp) (args : Args) (us : List Value) (vs : List V) (Q : VK) (E : XK), L2H.RoomH k A → L2H.PinOk outer H s p → Env0 P w K mg base A outer s H → BindsTo s fd args (ps.zip us) → Vals vs us → sp vs H Q E →
    codeAny (model P w) A (.call (.ref f) args) (CR CX outer P w H s Q E) s
theorem fn_ofS {CX : CXT} {P : Program} {w : World} {K : PySem.W.Frag} {mg : Str → Option Value} {base : Heap} {k : Nat} {f : Addr} {name qual : Str} {params : Arguments} {body : List Stmt} {scope : Scope} {dV kV doc pm cdv ct oc : Value} {an od : Option Addr}
    {osl : Array (Option Value)} {N ps : List Str} {sp : Sp} {p : Addr × Obj} (lk : K.lookup f = some ⟨oc, od, .func (PySem.W.fnOf name qual params body scope dV kV doc pm an cdv ct), osl⟩) (hcd : PySem.W.codeIn K cdv qual = true) (S : FnScope N ps scope)
    (len : ∀ vs H Q E, sp vs H Q E → vs.length = ps.length)
    (hbody : ∀ (A : Around) (outer : List PySem.Env) (s : Shared) (H : Hp) (vs : List V) (Q : VK) (E : XK), L2H.RoomH k (A.deeper (envOfC qual scope s.heap.objs.size f cdv)) → sp vs H Q E →
      ∃ t, PSs (L2H.cxH CX P w K mg base N qual scope f cdv A outer s H E p) body t ∧ t { nx := fun _ H' => Q .non H', rt := Q } (L2.start N vs) H) :
    FnS P w K mg base CX (k + 1) f (PySem.W.fnOf name qual params body scope dV kV doc pm an cdv ct) ps sp p := by
  refine ⟨len, fun A outer s H args us vs Q E hr hpin e0 hb r hsp => ?_⟩
  have hl := len _ _ _ _ hsp
  have KX : K.In s.heap := e0.mod.kin.keeps fun b o e => (e0.bs b o e).1
  have lim : s.heap.NoLimit := e0.mod.nolimit.keeps fun b o e => (e0.bs b o e).1
  have hkind : ∀ y ∈ ps.zip us, scope.names.lookup y.1 = some .local ∨ (scope.names.lookup y.1 = some .cell ∧ ((cellsFrom (s.heap.objs.size + 1) scope.names []).lookup y.1).isSome = true) := fun ⟨n, v⟩ hy => by
    rcases S.par n (List.of_mem_zip hy).1 with q | q
    · exact .inl q
    · exact .inr ⟨q, PySem.W.cellsFrom_some _ _ _ (.inl q)⟩
  refine codeAny_call_function hr.depth (KX _ _ lk) rfl S.co S.gen rfl (PySem.W.codeRec_of KX hcd) (hb _ _ _ _ ?_)
  refine wpAny_newFunctionEnv_cells S.kind hkind fun env he s1 x => ?_
  subst he
  refine ⟨lim.keeps x.toInCall.keep, codeAny_func ?_⟩
  obtain ⟨t, ht, hq⟩ := hbody A outer s H vs Q E (hr.deeper _) hsp
  have I : Inv (L2H.cxH CX P w K mg base N qual scope f cdv A outer s H E p) [] (L2.start N vs) H s1 := L2H.inv_startH S hpin e0 hl r x
  refine wpAny_mono (ht.run [] s1 (L2.start N vs) H _ I hq) (fun fl s' hs => ?_) fun e s' hs => hs
  have fin : ∀ {σ' : L2.St} {H' : Hp} {v : V} {u : Value}, Inv (L2H.cxH CX P w K mg base N qual scope f cdv A outer s H E p) [] σ' H' s' → RelV v u → Q v H' → CE outer P w H s Q u s' :=
    fun {σ' H' v u} J rv q => ⟨v, H', J.os, J.bare, J.base, J.hok, rv, q⟩
  cases fl with
  | ret u =>
    obtain ⟨v, σ', H', J, rv, q⟩ := hs
    exact fin J rv q
  | next =>
    obtain ⟨σ', H', J, q⟩ := hs
    exact fin (v := V.non) (u := Value.none) J rfl q
  | brk =>
    obtain ⟨_, _, _, q⟩ := hs
    exact False.elim q
  | cont =>
    obtain ⟨_, _, _, q⟩ := hs
    exact False.elim q
theorem run_fnS {X : Cx} {CX : CXT} {k : Nat} {f : Addr} {fd : FuncData} {ps : List Str} {sp : Sp} {p : Addr × Obj} {E : L2.St → XK} {pins : List (Addr × Obj)} {σ : L2.St} {H : Hp} {s : Shared} {Q : VK} {us : List Value} {vs : List V} (F : FnS X.prog X.w X.K X.mg X.base CX k f fd ps sp p) (hr : L2H.RoomH k X.A) (hp : p ∈ X.pn) (hb : Binds X.K fd ps []) (hx : PassesAt CX X σ (E σ))
    (I : Inv X pins σ H s) (r : Vals vs us) (h : sp vs H Q (E σ)) : wpAny (model X.prog X.w) X.A (call (.ref f) us) (EP X pins σ Q) X.xe s := by
  have hl : us.length = ps.length := by rw [← r.length]; exact F.len _ _ _ _ h
  have b := hb s us I.kIn (by rw [List.append_nil]; exact hl)
  rw [List.append_nil] at b
  have P1 := I.pin p (List.mem_append_left _ hp)
  have hpin : L2H.PinOk X.stack H s p := ⟨P1.1, P1.2.1, fun hm => (List.mem_cons.mp (I.stkSub p.1 hm)).elim P1.2.2.1 P1.2.2.2.1, P1.2.2.2.2⟩
  refine wpAny_call (codeAny_mono (F.run X.A X.stack s H ⟨us, []⟩ us vs Q (E σ) hr hpin I.env0 b r h) fun r s' hq => ?_)
  cases r with
  | error e => exact hx pins H s e s' I hq
  | ok fl =>
    cases fl with
    | ret u => exact I.after hq
    | next => exact False.elim hq
    | brk => exact False.elim hq
    | cont => exact False.elim hq
/-- what such a def keeps to -/
def spX (a : Addr) (c : Cn) (ln : List Bool) (f : List D → FRes) : Sp := fun vs H Q E => vs.head? = some (.ref a) ∧ spF c ln f vs H Q E
def spH (K : PySem.W.Frag) (cls0 : Str → Option Addr) (a : Addr) (cls : Value) (d : Option Addr) (ln : List Bool) (m : Exn → List D → FRes) : Sp := fun vs H Q E =>
  ∃ kp xn, Held ⟨⟨K, cls0⟩, kp, some a⟩ xn a cls d ∧ spX a ⟨⟨K, cls0⟩, kp, some a⟩ ln (m xn) vs H Q E
structure DefHot (P : Program) (w : World) (K : PySem.W.Frag) (mg : Str → Option Value) (base : Heap) (cls0 : Str → Option Addr) (k : Nat) (x : Str) (ps : List Str) (ln : List Bool) (m : Exn → List D → FRes) : Prop where
  ex : ∃ f fd, mg x = some (.ref f) ∧ PySem.W.keepIn K (.ref f) = true ∧ Binds K fd ps [] ∧ ∀ (a : Addr) (oe : Obj) (cls : Value) (d : Option Addr), Zc cls d oe → (∃ vs, oe.data = .fields vs) →
    FnS P w K mg base (L2N.CX P w) k f fd ps (spH K cls0 a cls d ln m) (a, oe)
theorem _root_.L2H.RoomH.units {k : Nat} {A : Around} (r : L2H.RoomH k A) : A.units + 64 < cLine := by have := r.un; omega
theorem room_suite {X : Cx} {k j : Nat} {a : Addr} {pn : List (Addr × Obj)} (hr : Room k X.A) (h : j ≤ k) : L2H.RoomH j (X.suite a pn).A := L2H.RoomH.mono (show L2H.RoomH k (X.suite a pn).A from ⟨hr.dp, hr.un⟩) h
theorem body_okX {c : Cn} {W : List Nat} {ln : List Bool} {t : TS} {g : M Flw} {N : List Str} {vs : List V} {H : Hp} {Q : VK} {E : XK} {a : Addr} (ha : c.ea = some a) (h : SOk c (fun _ => E) W t g) (hw : ∀ (i : Nat), ln[i]? = some true → i ∉ W)
    (sp : spX a c ln (defX N.length ln g) vs H Q E) : t { nx := fun _ H' => Q .non H', rt := Q } (L2.start N vs) H := by
  obtain ⟨hv, ds, T, l1, l2, gd, p⟩ := sp
  unfold defX at p
  by_cases hc : ln.length = ds.length ∧ isx (ds.headD .non) = true ∧ (ds.tail.any isx) = false
  rotate_left
  · rw [if_neg hc] at p
    exact p.elim
  rw [if_pos hc] at p
  have ft : Fit c (L2.start N vs) (envOf N.length ds) := fit_startX l1 fun i e => by
    cases i with
    | zero =>
      refine ⟨a, ha, ?_⟩
      rw [← List.head?_eq_getElem?]
      exact hv
    | succ j =>
      exfalso
      have e2 : ds.tail[j]? = some .exn := by rw [List.getElem?_tail]; exact e
      have := List.any_eq_false.mp hc.2.2 _ (List.mem_of_getElem? e2)
      exact absurd rfl this
  have es : sl (L2.start N vs) (envOf N.length ds) = vs.zip ds := sl_start l1
  have g0 : Good c H [] (T ++ sl (L2.start N vs) (envOf N.length ds)) := by
    rw [es]
    exact gd.perm List.perm_append_comm
  exact body_core h hw l1 l2 ft g0 p
theorem def_mkX {P : Program} {w : World} {K : PySem.W.Frag} {mg : Str → Option Value} {base : Heap} {cls0 : Str → Option Addr} {x : Str} {st : Stmt} {N ps : List Str} {ln : List Bool} {g : Exn → M Flw} {k : Nat} (L : Lk K mg x st ps) (S : FnScope N ps (defScope st)) (hl : ln.length = ps.length)
    (hbody : ∀ (f : Addr) (cdv : Value) (A : Around) (outer : List PySem.Env) (s : Shared) (H : Hp) (E : XK) (a : Addr) (oe : Obj) (cls : Value) (d : Option Addr) (kp : List (Addr × List Str × List D)) (xn : Exn), L2H.RoomH k (A.deeper (envOfC x (defScope st) s.heap.objs.size f cdv)) → Zc cls d oe → (∃ vs, oe.data = .fields vs) →
      Held ⟨⟨K, cls0⟩, kp, some a⟩ xn a cls d →
      ∃ t W, PSs (L2H.cxH (L2N.CX P w) P w K mg base N x (defScope st) f cdv A outer s H E (a, oe)) (defBody st) t ∧ SOk ⟨⟨K, cls0⟩, kp, some a⟩ (fun _ => E) W t (g xn) ∧ lnOk ln W = true) :
    DefHot P w K mg base cls0 (k + 1) x ps ln fun xn => defX N.length ln (g xn) := by
  obtain ⟨f, fd, F, b, m⟩ := L.ex
  obtain ⟨oc, od, kV, doc, pm, an, cdv, ct, osl, rfl, lk, hcd⟩ := F.ex
  refine ⟨f, _, m, F.kp, b, fun a oe cls d hz hf => fn_ofS lk hcd S (fun vs H Q E ⟨_, _, _, h⟩ => (spF_len h.2).trans hl) fun A outer s H vs Q E hr ⟨kp, xn, hh, sp⟩ => ?_⟩
  obtain ⟨t, W, hp, hs, hw⟩ := hbody f cdv A outer s H E a oe cls d kp xn hr hz hf hh
  exact ⟨t, hp, body_okX rfl hs (lnOk_ok hw) sp⟩
section
variable {X : Cx} {k j : Nat} {x : Str} {ps : List Str} {ln : List Bool} {m : Exn → List D → FRes} {cls0 : Str → Option Addr} {e : Expr} {t : TA} {p pos : Pos} {a : Addr} {oe : Obj} {cls : Value} {d : Option Addr}
theorem pe_callX {E : L2.St → XK} (G : DefHot X.prog X.w X.K X.mg X.base cls0 k x ps ln m) (hr : L2H.RoomH j X.A) (hp : (a, oe) ∈ X.pn) (hz : Zc cls d oe) (hf : ∃ vs, oe.data = .fields vs) (hx : ∀ σ, PassesAt (L2N.CX X.prog X.w) X σ (E σ)) (ha : PA X [e] t)
    (hk : k ≤ j := by decide) (hg : Gl X x := by rfl) (hdb : (x == ("__debug__" : Str)) = false := by decide) (he : starEach [e] X.env = (false, eval e X.env) :: starEach [] X.env := by rfl) (hpl : (backTo pos (starEach [] X.env)).any (·.1) = false := by rfl) :
    PE X (.Call (.Name x p) [e] [] pos) (tCallS (spH X.K cls0 a cls d ln m) E t) := by
  obtain ⟨f, fd, mm, kk, b, F⟩ := G.ex
  refine ⟨fun pins s σ H Q I h => ?_⟩
  refine wpAny_Call_Name_kw (ld_glob I hg mm ?_ hdb)
  refine PySem.W.callWith_K (h₀ := X.base) I.ok.mod.kin kk (thn (ha.run pos pins s σ H _ I h) fun us s1 ⟨vs, H1, I1, r, q⟩ => ⟨I1.kIn, ?_⟩) he hpl
  exact run_fnS (E := E) (F a oe cls d hz hf) (hr.mono hk) hp b (hx σ) I1 r q
end
def callX (f : List D → FRes) (i : Nat) : M D := do
  let d ← peek i
  if isx d = true then (match f [.exn] with
    | .ok r _ => pure r
    | _ => badM) else badM
theorem TOk.callX {K : PySem.W.Frag} {cls0 : Str → Option Addr} {kp : List (Addr × List Str × List D)} {EX : XW} {E : L2.St → XK} {m : Exn → List D → FRes} {x : Exn} {a : Addr} {cls : Value} {d : Option Addr} {i : Nat} (hh : Held ⟨⟨K, cls0⟩, kp, some a⟩ x a cls d) :
    TOk ⟨⟨K, cls0⟩, kp, some a⟩ EX (tCallS (spH K cls0 a cls d [false] m) E (tCons (tVar i) tNil)) (callX (m x) i) := fun H σ ρ T Q ft g h => by
  obtain ⟨e, e1, h1⟩ := peek_post.mp (bind_post.mp h)
  by_cases k : isx e = true
  · rw [if_pos k] at h1
    obtain ⟨a', ea', hs⟩ := ft.exn i (by rw [e1, isx_eq k])
    cases ea'
    refine ⟨_, hs, kp, x, hh, rfl, [.exn], T ++ sl σ ρ, rfl, rfl, g.flat fun Z => ⟨⟨a, rfl⟩, rfl⟩, ?_⟩
    cases ef : m x [.exn] with
    | ok r outs =>
      rw [ef] at h1
      intro v H' gg
      refine h1 v H' ft ?_
      cases outs <;> exact gg
    | err _ => rw [ef] at h1; exact h1.elim
    | bad => rw [ef] at h1; exact h1.elim
  · rw [if_neg k] at h1
    exact h1.elim
end Mir
end
section
set_option Elab.async false
set_option linter.all false
set_option maxRecDepth 100000
set_option maxHeartbeats 4000000
/-! Mir11: an element of a row is lent; a statement that is never reached. -/
namespace Mir
open PySem PySem.Spec PyProof.Rows L2
theorem ps_dead {X : Cx} {st : Stmt} : PS X st (fun _ _ _ => False) := ⟨fun _ _ _ _ _ _ h => h.elim⟩
section
variable {c : Cn} {EX : XW}
theorem SOk.dead : SOk c EX [] (fun _ _ _ => False) badM := fun H σ ρ T Dn f g p => p
section
variable {H : Hp} {R : List Addr} {L : List (V × D)} {v z : V} {d : D} {ds : List D} {k : Nat}
/-- an element of an own list is taken out -/
theorem Good.holeL (g : Good c H R ((v, .lst true ds) :: L)) (h : ds[k]? = some d) : ∃ p vs z, v = .ref p ∧ H p = some (.lst vs) ∧ vs.length = ds.length ∧ vs[k]? = some z ∧ Good c H R ((z, d) :: (v, .lst true (ds.set k (.val z))) :: L) := by
  obtain ⟨p, vs, e, hp, hl, g1⟩ := g.openL
  obtain ⟨z, hz⟩ := get_of_len hl h
  refine ⟨p, vs, z, e, hp, hl, hz, ?_⟩
  have hk := ltE h
  have g2 : Good c H (p :: R) ((z, .val z) :: (z, d) :: ((vs.eraseIdx k).zip (ds.eraseIdx k) ++ L)) := Good.addV (g1.perm (List.Perm.append_right L (zip_at hz h))) z
  have g3 : Good c H (p :: R) (vs.zip (ds.set k (.val z)) ++ ((z, d) :: L)) := by
    refine (g2.perm ?_)
    refine (List.Perm.trans ?_ (List.Perm.append_right ((z, d) :: L) (zip_set hz hk).symm))
    exact List.Perm.cons _ List.perm_middle.symm
  have g4 := g3.shutL (by rw [List.length_set]; exact hl) hp
  rw [e]
  exact g4.swap
theorem Good.fillL (g : Good c H R ((z, d) :: (v, .lst true ds) :: L)) (h : ds[k]? = some (.val z)) : Good c H R ((v, .lst true (ds.set k d)) :: L) := by
  obtain ⟨p, vs, e, hp, hl, g1⟩ := g.swap.openL
  obtain ⟨z', hz⟩ := get_of_len hl h
  have g2 := (g1.perm (List.Perm.append_right _ (zip_at hz h)))
  have ez : z' = z := g2.isV
  subst ez
  have g3 : Good c H (p :: R) (vs.zip (ds.set k d) ++ L) := by
    refine g2.tail.perm ?_
    refine (List.Perm.trans ?_ (List.Perm.append_right L (zip_set hz (ltE h)).symm))
    exact List.perm_middle
  have g4 := g3.shutL (by rw [List.length_set]; exact hl) hp
  rw [e]
  exact g4
/-- .. of a tuple -/
theorem Good.holeT (g : Good c H R ((v, .tup ds) :: L)) (h : ds[k]? = some d) : ∃ p vs z, v = .ref p ∧ SqT c.K H p vs ∧ vs.length = ds.length ∧ vs[k]? = some z ∧ Good c H R ((z, d) :: (v, .tup (ds.set k (.val z))) :: L) := by
  obtain ⟨p, vs, e, hp, hl, g1⟩ := g.openT
  obtain ⟨z, hz⟩ := get_of_len hl h
  refine ⟨p, vs, z, e, hp, hl, hz, ?_⟩
  have hk := ltE h
  have g2 : Good c H R ((z, .val z) :: (z, d) :: ((vs.eraseIdx k).zip (ds.eraseIdx k) ++ L)) := Good.addV (g1.perm (List.Perm.append_right L (zip_at hz h))) z
  have g3 : Good c H R (vs.zip (ds.set k (.val z)) ++ ((z, d) :: L)) := by
    refine (g2.perm ?_)
    refine (List.Perm.trans ?_ (List.Perm.append_right ((z, d) :: L) (zip_set hz hk).symm))
    exact List.Perm.cons _ List.perm_middle.symm
  have g4 := g3.closeT (by rw [List.length_set]; exact hl) hp
  rw [e]
  exact g4.swap
theorem Good.fillT (g : Good c H R ((z, d) :: (v, .tup ds) :: L)) (h : ds[k]? = some (.val z)) : Good c H R ((v, .tup (ds.set k d)) :: L) := by
  obtain ⟨p, vs, e, hp, hl, g1⟩ := g.swap.openT
  obtain ⟨z', hz⟩ := get_of_len hl h
  have g2 := (g1.perm (List.Perm.append_right _ (zip_at hz h)))
  have ez : z' = z := g2.isV
  subst ez
  have g3 : Good c H R (vs.zip (ds.set k d) ++ L) := by
    refine g2.tail.perm ?_
    refine (List.Perm.trans ?_ (List.Perm.append_right L (zip_set hz (ltE h)).symm))
    exact List.perm_middle
  have g4 := g3.closeT (by rw [List.length_set]; exact hl) hp
  rw [e]
  exact g4
/-- .. of a shared list -/
theorem Good.elemF (g : Good c H R ((v, .lst false ds) :: L)) (h : ds[k]? = some d) : ∃ p vs z, v = .ref p ∧ Rd H p (.lst vs) ∧ vs.length = ds.length ∧ vs[k]? = some z ∧ Good c H R ((z, d) :: (v, .lst false ds) :: L) := by
  obtain ⟨Z, fp, ⟨f, g', h1, h2, e⟩, nd, nz, zt⟩ := g
  have h1' := h1
  simp only [Rep, Bool.false_eq_true, if_false] at h1
  obtain ⟨a, vs, f', ev, r, q1, q2, q3, q4⟩ := h1
  subst q3 q4 e
  obtain ⟨z, hz⟩ := get_of_len (RepL.len _ _ _ r) h
  have key : ∀ {ds : List D} {vs : List V} {k : Nat}, RepL c Z H ds vs [] → ds[k]? = some d → vs[k]? = some z → Rep c Z H d z [] := by
    intro ds
    induction ds with
    | nil => intro vs k _ h; simp at h
    | cons x xs ih =>
      intro vs k r h hz
      simp only [RepL] at r
      obtain ⟨w, r', f1, f2, e, h1, h2, e2⟩ := r
      subst e
      obtain ⟨e3, e4⟩ := List.append_eq_nil_iff.mp e2.symm
      subst e3 e4
      cases k with
      | zero =>
        simp at h hz
        subst h hz
        exact h1
      | succ k => exact ih h2 (by simpa using h) (by simpa using hz)
  exact ⟨a, vs, z, ev, q1, RepL.len _ _ _ r, hz, Z, [] ++ ([] ++ fp), ⟨[], [] ++ fp, key r h hz, ⟨[], fp, h1', h2, rfl⟩, rfl⟩, nd, nz, zt⟩
end
/-! ### which element, and how it is put back -/
def eltK : D → D → Option (Nat × D)
  | .lst _ xs, .int i => (match ixN xs.length i with
    | some k => (match xs[k]? with
      | some d => some (k, d)
      | none => none)
    | none => none)
  | .tup xs, .int i => (match ixN xs.length i with
    | some k => (match xs[k]? with
      | some d => some (k, d)
      | none => none)
    | none => none)
  | _, _ => none
def putE : D → Nat → D → D
  | .lst true xs, k, d => .lst true (xs.set k d)
  | .tup xs, k, d => .tup (xs.set k d)
  | a, _, _ => a
/-- what stays of the row -/
def holeE : D → Nat → V → D
  | .lst true xs, k, z => .lst true (xs.set k (.val z))
  | .tup xs, k, z => .tup (xs.set k (.val z))
  | a, _, _ => a
theorem elt_out {H : Hp} {L : List (V × D)} {v u : V} {a n d : D} {k : Nat} (g : Good c H [] ((v, a) :: L)) (hn : ∀ i, n = .int i → u = .int i) (h : eltK a n = some (k, d)) :
    ∃ z, (∀ Q : VK, Q z H → rIx c.K v u H Q) ∧ Good c H [] ((z, d) :: (v, holeE a k z) :: L) ∧ ∀ H' d' L', Good c H' [] ((z, d') :: (v, holeE a k z) :: L') → Good c H' [] ((v, putE a k d') :: L') := by
  unfold eltK at h
  split at h
  · rename_i o xs i
    have hu := hn i rfl
    split at h
    · rename_i kk q1
      split at h
      · rename_i dd q2
        cases h
        cases o with
        | true =>
          obtain ⟨p, vs, z, ev, hp, hl, hz, g2⟩ := g.holeL q2
          refine ⟨z, fun Q q => .inl ⟨p, vs, i, z, ev, hu, .inl (.of hp), ixN_at hl q1 hz, q⟩, g2, fun H' d' L' g3 => ?_⟩
          have g4 := g3.fillL (k := k) (List.getElem?_set_self (ltE q2))
          rw [List.set_set] at g4
          exact g4
        | false =>
          obtain ⟨p, vs, z, ev, hp, hl, hz, g2⟩ := g.elemF q2
          exact ⟨z, fun Q q => .inl ⟨p, vs, i, z, ev, hu, .inl hp, ixN_at hl q1 hz, q⟩, g2, fun H' d' L' g3 => g3.tail⟩
      · cases h
    · cases h
  · rename_i xs i
    have hu := hn i rfl
    split at h
    · rename_i kk q1
      split at h
      · rename_i dd q2
        cases h
        obtain ⟨p, vs, z, ev, hp, hl, hz, g2⟩ := g.holeT q2
        refine ⟨z, fun Q q => .inr (.inl ⟨p, vs, i, z, ev, hu, hp, ixN_at hl q1 hz, q⟩), g2, fun H' d' L' g3 => ?_⟩
        have g4 := g3.fillT (k := k) (List.getElem?_set_self (ltE q2))
        rw [List.set_set] at g4
        exact g4
      · cases h
    · cases h
  · cases h
theorem isx_put {a : D} {k : Nat} {d n e : D} (h : eltK a n = some (k, e)) : some (putE a k d) ≠ some D.exn := by
  unfold eltK at h
  split at h
  · rename_i o xs i
    cases o <;> (intro z; cases z)
  · intro z; cases z
  · cases h
/-- f(xs[j], ys[j']), the elements lent -/
def callE2 (f : List D → FRes) (i j i' j' : Nat) : M D := do
  let a ← peek i
  let n ← peek j
  let b ← peek i'
  let n' ← peek j'
  if i = i' then badM else
    match eltK a n, eltK b n' with
    | some (k, d), some (k', d') => (match f [d, d'] with
      | .ok r [o, o'] => (do
        setv i (some (putE a k o))
        setv i' (some (putE b k' o'))
        pure r)
      | _ => badM)
    | _, _ => badM
theorem rd_int {H : Hp} {σ : St} {ρ : Env} {T : List (V × D)} {j : Nat} {n : D} {u : V} (g : Good c H [] (T ++ sl σ ρ)) (e : ρ[j]? = some (some n)) (k : σ[j]? = some (some u)) : ∀ i, n = .int i → u = .int i := fun i h => by
  subst h
  exact (slot_out g e k).isI
theorem TOk.callE2 {E : L2.St → XK} {f : List D → FRes} {i j i' j' : Nat} : TOk c EX (tCallS (spF c [true, true] f) E (tCons (tOp (rIx c.K) (tVar i) (tVar j)) (tCons (tOp (rIx c.K) (tVar i') (tVar j')) tNil))) (callE2 f i j i' j') := fun H σ ρ T Q ft g h => by
  obtain ⟨a, ea, h1⟩ := peek_post.mp (bind_post.mp h)
  obtain ⟨n, en, h2⟩ := peek_post.mp (bind_post.mp h1)
  obtain ⟨b, eb, h3⟩ := peek_post.mp (bind_post.mp h2)
  obtain ⟨n', en', h4⟩ := peek_post.mp (bind_post.mp h3)
  by_cases hii : i = i'
  · rw [if_pos hii] at h4; exact h4.elim
  rw [if_neg hii] at h4
  cases e1 : eltK a n with
  | none => rw [e1] at h4; exact h4.elim
  | some kd =>
    cases e2 : eltK b n' with
    | none => rw [e1, e2] at h4; exact h4.elim
    | some kd' =>
      obtain ⟨k, d⟩ := kd
      obtain ⟨k', d'⟩ := kd'
      rw [e1, e2] at h4
      cases ef : f [d, d'] with
      | bad => simp only [ef] at h4; exact h4.elim
      | err x => simp only [ef] at h4; exact h4.elim
      | ok r outs =>
        match outs, ef with
        | [], ef => simp only [ef] at h4; exact h4.elim
        | [_], ef => simp only [ef] at h4; exact h4.elim
        | _ :: _ :: _ :: _, ef => simp only [ef] at h4; exact h4.elim
        | [o, o'], ef =>
          simp only [ef] at h4
          have h5 := bind_post.mp h4
          rw [setv_post] at h5
          have h6 := bind_post.mp h5
          rw [setv_post] at h6
          obtain ⟨v, hv⟩ := ft.has i a ea
          obtain ⟨u, hu⟩ := ft.has j n en
          obtain ⟨v', hv'⟩ := ft.has i' b eb
          obtain ⟨u', hu'⟩ := ft.has j' n' en'
          have g1 := slot_out g ea hv
          obtain ⟨z, rx, g2, back⟩ := elt_out g1 (rd_int g en hu) e1
          have eb' : (ρ.set i none)[i']? = some (some b) := by rw [List.getElem?_set_ne hii]; exact eb
          have g3 : Good c H [] ((v', b) :: ((z, d) :: (v, holeE a k z) :: T ++ sl σ ((ρ.set i none).set i' none))) := slot_out (T := (z, d) :: (v, holeE a k z) :: T) g2 eb' hv'
          obtain ⟨z', rx', g4, back'⟩ := elt_out g3 (rd_int g en' hu') e2
          refine ⟨v, hv, u, hu, rx _ ⟨v', hv', u', hu', rx' _ ?_⟩⟩
          refine ⟨[d, d'], (v', holeE b k' z') :: (v, holeE a k z) :: (T ++ sl σ ((ρ.set i none).set i' none)), rfl, rfl, ?_, ?_⟩
          · refine g4.perm ?_
            show ((z', d') :: (v', holeE b k' z') :: (z, d) :: (v, holeE a k z) :: (T ++ sl σ ((ρ.set i none).set i' none))).Perm ((z, d) :: (z', d') :: (v', holeE b k' z') :: (v, holeE a k z) :: (T ++ sl σ ((ρ.set i none).set i' none)))
            exact ((List.Perm.cons _ (.swap _ _ _)).trans (.swap _ _ _)).trans (.refl _)
          · rw [ef]
            intro w H' gg
            have g5 : Good c H' [] ((w, r) :: (z, o) :: (z', o') :: (v', holeE b k' z') :: (v, holeE a k z) :: (T ++ sl σ ((ρ.set i none).set i' none))) := gg
            have g6 := back' H' o' ((w, r) :: (z, o) :: (v, holeE a k z) :: (T ++ sl σ ((ρ.set i none).set i' none))) (g5.perm (by
              refine (List.Perm.trans (List.Perm.cons _ (List.Perm.swap _ _ _)) ?_)
              refine (List.Perm.trans (.swap _ _ _) ?_)
              refine List.Perm.cons _ ?_
              refine (List.Perm.trans (List.Perm.cons _ (.swap _ _ _)) ?_)
              exact .swap _ _ _))
            have g7 := back H' o ((w, r) :: (v', putE b k' o') :: (T ++ sl σ ((ρ.set i none).set i' none))) (g6.perm (by
              refine (List.Perm.trans (.swap _ _ _) ?_)
              refine (List.Perm.trans (List.Perm.cons _ (.swap _ _ _)) ?_)
              refine (List.Perm.trans (.swap _ _ _) ?_)
              refine List.Perm.cons _ ?_
              refine (List.Perm.trans (List.Perm.cons _ (.swap _ _ _)) ?_)
              exact .swap _ _ _))
            refine h6 w H' ((ft.put hv (isx_put e1)).put hv' (isx_put e2)) ?_
            have g8 : Good c H' [] ((v', putE b k' o') :: ((v, putE a k o) :: (w, r) :: T ++ sl σ ((ρ.set i none).set i' none))) := g7.perm (by
              refine (List.Perm.trans (List.Perm.cons _ (.swap _ _ _)) ?_)
              exact .swap _ _ _)
            have g9 := slot_in g8 (by rw [List.length_set]; exact ltE eb) hv'
            have g10 : Good c H' [] ((v, putE a k o) :: ((w, r) :: T ++ sl σ ((ρ.set i' (some (putE b k' o'))).set i none))) := by
              rw [List.set_comm _ _ (Ne.symm hii)]
              exact g9
            have g11 := slot_in g10 (by rw [List.length_set]; exact ltE ea) hv
            rw [List.set_comm _ _ hii]
            exact g11
/-- xs[n].append(e), n a plain number -/
def appE (i : Nat) (n : Int) (f : M D) : M D := do
  let a ← peek i
  match eltK a (.int n) with
  | some (k, .lst true ys) => (do
    setv i none
    let d ← f
    if ys.length < sizeLine then (do
      setv i (some (putE a k (.lst true (ys ++ [d]))))
      pure .non) else badM)
  | _ => badM
theorem TOk.appE {i : Nat} {n : Int} {t : TE} {f : M D} (h : TOk c EX t f) : TOk c EX (tBM c.K "list" rAppend (tOp (rIx c.K) (tVar i) (tC (.int n))) (tCons t tNil)) (appE i n f) := fun H σ ρ T Q ft gd p => by
  obtain ⟨a, ea, p1⟩ := peek_post.mp (bind_post.mp p)
  cases e1 : eltK a (.int n) with
  | none => rw [e1] at p1; exact p1.elim
  | some kd =>
    obtain ⟨k, dd⟩ := kd
    cases dd with
    | lst o ys =>
      cases o with
      | true =>
        simp only [e1] at p1
        have p2 := bind_post.mp p1
        rw [setv_post] at p2
        obtain ⟨v, hv⟩ := ft.has i a ea
        obtain ⟨z, rx, g2, back⟩ := elt_out (slot_out gd ea hv) (fun i e => by cases e; rfl) e1
        refine ⟨v, hv, rx _ ?_⟩
        obtain ⟨Z, q0, vs0, f0, ev0, hr0, _, _⟩ := g2.lst
        refine ⟨by rw [ev0]; exact .inl ⟨rfl, vs0, .inl hr0⟩, ?_⟩
        refine h H σ (ρ.set i none) ((z, .lst true ys) :: (v, holeE a k z) :: T) _ ft.none g2 ((bind_post.mp p2).imp (fun d ρ1 q u H1 f1 g1 => ?_) fun _ _ q => q.more.more)
        by_cases hz : ys.length < sizeLine
        · rw [if_pos hz] at q
          have q2 := bind_post.mp q
          rw [setv_post] at q2
          obtain ⟨pp, vs, ev, hp, hl, g3⟩ := Good.push (L := (v, holeE a k z) :: (T ++ sl σ ρ1)) g1
          refine ⟨pp, vs, u, ev, rfl, hp, by omega, ?_⟩
          have g4 := back _ _ _ g3
          have hi : i < ρ1.length := by rw [← f1.len]; exact ltE hv
          have g5 : Good c _ [] ((v, putE a k (.lst true (ys ++ [d]))) :: (T ++ sl σ (ρ1.set i none))) := (g4.sub (List.Sublist.cons_cons _ (List.Sublist.append (.refl T) sl_sub)))
          exact q2 _ _ (f1.put hv (isx_put e1)) (slot_in g5 hi hv).addN
        · rw [if_neg hz] at q
          exact q.elim
      | false => simp only [e1] at p1; exact p1.elim
    | _ => simp only [e1] at p1; exact p1.elim
end
end Mir
namespace Mir
open PySem PySem.Spec PyProof.Rows L2
theorem def_bad {P : Program} {w : World} {K : PySem.W.Frag} {mg : Str → Option Value} {base : Heap} {x : Str} {st : Stmt} {ps : List Str} {c : Cn} {ln : List Bool} {k : Nat} (L : Lk K mg x st ps) (hl : ln.length = ps.length) : DefAt P w K mg base k x ps (spF c ln fun _ => .bad) := by
  obtain ⟨f, fd, F, b, m⟩ := L.ex
  exact ⟨f, fd, m, F.kp, b, ⟨fun vs H Q E h => (spF_len h).trans hl, fun A outer s H args us vs Q E hr e0 hb r ⟨_, _, _, _, _, z⟩ => z.elim⟩, st, F⟩
end Mir

namespace HotX
open PySem PySem.Spec PyProof.Rows
section
variable {prog : Program} {w : World} {A : Around} {E : Value → Shared → Prop} {s : Shared}
theorem next_tuple_end_hot {it t x1 : Addr} {i : Nat} {items} {Q : Option Value → Shared → Prop} (hot : HotAt A x1 s.heap) (hne : x1 ≠ it)
    (hit : IsTupIter s.heap it t i) (ht : IsTup s.heap t items) (hx : items[i]? = none)
    (hQ : ∀ h', Heap.ExtBut it s.heap h' → Q none { s with heap := h' }) : wpAny (model prog w) A (pyNext (.ref it)) Q E s := by
  obtain ⟨o, ho, hc, hd⟩ := id hit
  obtain ⟨ol, hol, _, nl, hdl⟩ := ht
  obtain ⟨hh, o1, vs1, h1, d1, c1⟩ := hot
  unfold pyNext
  refine wpAny_bind (wpAny_attempt (wpAny_callSpecial?_slot (name := Str.ofString "__next__") hit.typeIs slot_tupleiter_next
    (wpAny_call_entry slot_tupleiter_next hit.typeIs entry_tupleiter_next ?_ (args_tupleiter_next _))))
  show wpAny _ _ (field (.ref it) 0 >>= _) _ _ s
  refine wpAny_bind (wpAny_field ho hd (x := .ref t) rfl ?_)
  show wpAny _ _ (if (Value.ref t == Value.none) = true then _ else _) _ _ s
  rw [if_neg (show ¬ ((Value.ref t == Value.none) = true) from Bool.false_ne_true)]
  show wpAny _ _ (field (.ref it) 1 >>= _) _ _ s
  refine wpAny_bind (wpAny_field ho hd (x := .int i 0) rfl ?_)
  show wpAny _ _ (seqItems? (.ref t) >>= _) _ _ s
  refine wpAny_bind (wpAny_seqItems hol hdl ?_)
  simp only [Int.toNat_natCast, hx]
  refine wpAny_bind (wpAny_rule (wpAny_bind (wpAny_setField ho hd (by simp) ?_)))
  have h1' : (s.heap.update it (Obj.mapFields (·.setIfInBounds 0 Value.none))).get? x1 = some o1 := (Heap.get?_update_other _ _ (Ne.symm hne)).trans h1
  show wpAny _ _ (newExc (.type "StopIteration") [] >>= _) _ _ _
  refine wpAny_bind ?_
  simp only [newExc, newTuple]
  refine wpAny_bind (wpAny_newObj_type ?_ (by size_fits))
  refine wpAny_bind (m := firstArgMember _ _) (wpAny_of_eq (a := Value.none) (by first | rfl | (simp only [firstArgMember]; rfl)) ?_)
  refine wpAny_newObj_type ?_ (by size_fits)
  refine raiseNew_hot ⟨hh, o1, vs1, Heap.get?_push_of_some _ (Heap.get?_push_of_some _ h1'), d1, c1⟩ (Nat.ne_of_lt (Heap.lt_size (Heap.get?_push_of_some _ h1'))) (Heap.get?_push_size _ rfl) rfl (by first | (simp; done) | (simp; omega) | (simp only [Array.size_append]; simp; omega)) ?_
  refine wpAny_bind (wpAny_isInstance (T := "StopIteration") (b := true) ⟨_, Heap.get?_update_self _ (Heap.get?_push_size _ rfl) rfl, rfl⟩ isSubtype_stop ?_)
  refine wpAny_pure (hQ _ fun b o hb e => ?_)
  have e1 : (s.heap.update it (Obj.mapFields (·.setIfInBounds 0 Value.none))).get? b = some o := (Heap.get?_update_other _ _ (Ne.symm hb)).trans e
  rw [Heap.get?_update_other _ _ (Nat.ne_of_gt (Heap.lt_size (Heap.get?_push_of_some _ e1)))]
  exact Heap.get?_push_of_some _ (Heap.get?_push_of_some _ e1)
theorem unpackItems_tuple_hot {t x1 : Addr} {items : Array Value} {Q : List Value → Shared → Prop} (hot : HotAt A x1 s.heap) (ht : IsTup s.heap t items)
    (hQ : ∀ h', Heap.ExtBut s.heap.objs.size s.heap h' → Q items.toList { s with heap := h' }) : wpAny (model prog w) A (unpackItems (.ref t) items.size none) Q E s := by
  have hlt : t ≠ s.heap.objs.size := by obtain ⟨o, ho, _⟩ := ht; exact Nat.ne_of_lt (Heap.lt_size ho)
  obtain ⟨hh, o1, vs1, h1, d1, c1⟩ := hot
  have hxs : x1 ≠ s.heap.objs.size := Nat.ne_of_lt (Heap.lt_size h1)
  unfold unpackItems
  refine wpAny_bind ?_
  · unfold notIterableAtAll
    refine wpAny_bind (wpAny_specialOf ht.typeIs slot_tuple_iter.lookup ?_)
    refine wpAny_pure ?_
    simp only [Bool.false_eq_true, if_false]
    refine wpAny_bind (wpAny_holding (iter_tuple ht ?_))
    refine wpAny_bind (wpAny_holding (draw_tuple hlt items.size 0 _ _ ⟨_, Heap.get?_push_size _ rfl, rfl, rfl⟩ (ht.push _) (by omega) fun h₁ hit₁ hs₁ => ?_))
    have hall : List.take items.size (List.drop 0 items.toList) = items.toList := by
      rw [List.drop_zero]; exact List.take_of_length_le (by simp)
    rw [hall]
    rw [if_neg (by simp)]
    have ht₁ : IsTup h₁ t items := (ht.push _).extBut hs₁.extBut hlt
    refine wpAny_bind (wpAny_holding (next_tuple_end_hot ⟨hh, o1, vs1, hs₁.extBut x1 _ hxs (Heap.get?_push_of_some _ h1), d1, c1⟩ hxs hit₁ ht₁ (by simp) fun h₂ he₂ => ?_))
    simp only [Option.isSome_none, Bool.false_eq_true, if_false]
    refine wpAny_pure (hQ h₂ fun b o hb e => he₂ b o hb (hs₁.extBut b o hb (Heap.get?_push_of_some _ e)))
end
end HotX
namespace L2
open PySem PySem.Spec PyProof.Rows
theorem ps_parH {X : Cx} {i j : Nat} {x y : Str} {a b : Expr} {ta : TA} {px py pt pos : Pos} {kt k2 pt2} (hc : L2H.HotC X) (hN : X.N.Nodup) (hi : X.N[i]? = some x) (hj : X.N[j]? = some y) (hij : i ≠ j)
    (hx : X.env.scope.names.lookup x = some .local) (hy : X.env.scope.names.lookup y = some .local) (ha : PA X [a, b] ta)
    (hw : swappedStores [.Tuple [.Name x px, .Name y py] kt pt] (.Tuple [a, b] k2 pt2) X.env = pure (some [x, y]))
    (hs : swapsWithSole [.Tuple [.Name x px, .Name y py] kt pt] (.Tuple [a, b] k2 pt2) pos.line X.env = pure false := by rfl) :
    PS X (.Assign [.Tuple [.Name x px, .Name y py] kt pt] (.Tuple [a, b] k2 pt2) pos) (tPar i j ta) := by
  refine ⟨fun pins s σ H D I h => ?_⟩
  rw [exec_Assign_arm]
  refine wpAny_bind (wpAny_standAt ?_)
  rw [hs]
  refine wpAny_bind (wpAny_pure ?_)
  rw [if_neg (by decide)]
  refine wpAny_bind (Tuple_ (thn (ha.run _ pins s σ H _ I h) fun us s1 ⟨vs, H1, I1, r1, q1⟩ => ?_))
  obtain ⟨v, w, e1, q1⟩ := q1
  subst e1
  obtain ⟨u1, u2, rfl, rv, rw'⟩ : ∃ u1 u2, us = [u1, u2] ∧ RelV v u1 ∧ RelV w u2 := by
    cases r1 with
    | cons p q =>
      cases q with
      | cons p' q' =>
        cases q'
        exact ⟨_, _, rfl, p, p'⟩
  refine wpAny_newObj_type ?_ (by show 2 ≤ sizeLine; decide)
  have I2 : Inv X pins σ H1 { s1 with heap := s1.heap.push { cls := .type "tuple", data := .seq [u1, u2].toArray } } := I1.kept (t' := s1.toks) fun b o e => Heap.get?_push_of_some _ e
  rw [hw]
  refine wpAny_bind (wpAny_pure ?_)
  show wpAny (model X.prog X.w) X.A (do rule "assign.swapped-stores"; let items ← unpackItems (.ref s1.heap.objs.size) 2 none; assignInOrder [fun v => bindName X.env y v, fun v => bindName X.env x v] items.reverse; pure Flow.next) _ _ _
  obtain ⟨x1, hot⟩ := hc.at I2
  refine wpAny_bind (wpAny_rule (wpAny_bind (HotX.unpackItems_tuple_hot (items := #[u1, u2]) hot (IsTup.new s1.heap _) fun h' hx' => ?_)))
  have I3 := I2.kept (h' := h') (t' := s1.toks) fun b o e => hx' b o (Nat.ne_of_lt (Heap.lt_size e)) e
  show wpAny _ _ (assignInOrder [fun v => bindName X.env y v, fun v => bindName X.env x v] [u2, u1] >>= fun _ => pure Flow.next) _ _ _
  refine wpAny_bind (assignInOrder_cons (wpAny_bindName (store_ok I3 hN hj (.inl hy) rw' (fun s2 I4 => ?_) (.inr hy))))
  refine assignInOrder_cons (wpAny_bindName (store_ok I4 hN hi (.inl hx) rv (fun s3 I5 => assignInOrder_nil (wpAny_pure ?_)) (.inr hx)))
  rw [List.set_comm _ _ (Ne.symm hij)] at I5
  exact ⟨_, H1, I5, q1⟩
theorem hot_suite {X : Cx} {a : Addr} {oe : Obj} {cls : Value} {d : Option Addr} {pn : List (Addr × Obj)} (hz : L2N.Zn cls d oe) (hf : ∃ vs, oe.data = .fields vs) : L2H.HotC (X.suite a ((a, oe) :: pn)) := by
  obtain ⟨vs, e⟩ := hf
  exact ⟨(a, oe), ⟨rfl, vs, e, hz.2.2 vs e⟩, List.mem_cons_self⟩
end L2
namespace Mir
open PySem PySem.Spec PyProof.Rows L2
def rJoinK (K : PySem.W.Frag) : V → List V → Hp → VK → Prop := fun x xs H Q => ∃ a p, ∃ ys : List Str, x = .str a ∧ xs = [.ref p] ∧ (SqL K H p (ys.map V.str) ∨ SqT K H p (ys.map V.str)) ∧ (ys.map (·.length)).sum + ys.length * a.length ≤ 16777216 ∧ Q (.str (Txt.join a ys)) H
theorem pe_joinK {X : Cx} {o e : Expr} {to te : TE} {K : PySem.W.Frag} {apos pos : Pos} (hK : X.K = K) (ho : PE X o to) (he : PE X e te) (hs : starEach [e] X.env = [(false, eval e X.env)] := by rfl) (hbase : attributeBase o "join" X.env (eval o X.env) = eval o X.env := by rfl) (hline : (apos.endLine == pos.line) = true := by rfl) :
    PE X (.Call (.Attribute o "join" apos) [e] [] pos) (tM1 (rJoinK K) to te) := by
  subst hK
  exact pe_join ho he hs hbase hline
theorem g_joinK {c : Cn} : G2 c (fun x y H Q => rJoinK c.K x [y] H Q) oJoin := g_join
end Mir
end
section
set_option Elab.async false
set_option linter.all false
set_option maxRecDepth 100000
set_option maxHeartbeats 4000000
/-! Mir12: a loop over a list that stays whose it is. -/
namespace Mir
open PySem PySem.Spec PyProof.Rows L2
section
variable {c : Cn} {EX : XW} {H : Hp} {R : List Addr} {L : List (V × D)} {v : V} {ds : List D}
/-- an own list whose things are told apart from it -/
theorem Good.apart (g : Good c H R ((v, .lst true ds) :: L)) : ∃ p vs, v = .ref p ∧ H p = some (.lst vs) ∧ vs.length = ds.length ∧ Good c H R ((v, .lst true (vs.map .val)) :: (vs.zip ds ++ L)) := by
  obtain ⟨p, vs, e, hp, hl, g1⟩ := g.openL
  refine ⟨p, vs, e, hp, hl, ?_⟩
  have key : ∀ (ws : List V) {L' : List (V × D)}, Good c H (p :: R) L' → Good c H (p :: R) (ws.zip (ws.map D.val) ++ L') := by
    intro ws
    induction ws with
    | nil => intro L' g; exact g
    | cons w ws ih => intro L' g; exact (ih g).addV w
  have g2 := (key vs g1).shutL (by rw [List.length_map]) hp
  rw [e]
  exact g2
theorem Good.refill {vs : List V} (g : Good c H R ((v, .lst true (vs.map .val)) :: (vs.zip ds ++ L))) (hl : vs.length = ds.length) : Good c H R ((v, .lst true ds) :: L) := by
  obtain ⟨p, ws, e, hp, hl2, g1⟩ := g.openL
  have key : ∀ (us ws : List V) {L' : List (V × D)}, ws.length = us.length → Good c H (p :: R) (ws.zip (us.map D.val) ++ L') → ws = us := by
    intro us
    induction us with
    | nil => intro ws L' h _; exact List.length_eq_zero_iff.mp h
    | cons u us ih =>
      intro ws L' h g
      cases ws with
      | nil => cases h
      | cons w ws =>
        have g' : Good c H (p :: R) ((w, .val u) :: (ws.zip (us.map D.val) ++ L')) := g
        rw [ih ws (Nat.succ.inj h) g'.tail, g'.isV]
  have ew : ws = vs := key vs ws (by rw [hl2, List.length_map]) g1
  subst ew
  have g2 : Good c H (p :: R) (ws.zip ds ++ L) := g1.sub (List.sublist_append_right _ _)
  have g3 := g2.shutL hl hp
  rw [e]
  exact g3
theorem Good.freezeL : ∀ {vs : List V} {ds : List D} {L : List (V × D)}, Good c H R (vs.zip ds ++ L) → Good c H R (vs.zip (fzL ds) ++ L)
  | [], _, _, g => g
  | _ :: _, [], _, g => g
  | w :: vs, d :: ds, L, g => by
    have g1 : Good c H R ((w, d) :: (vs.zip ds ++ L)) := g
    have g2 : Good c H R ((w, fz d) :: (vs.zip ds ++ L)) := g1.freeze
    have g3 : Good c H R (vs.zip ds ++ ((w, fz d) :: L)) := g2.perm List.perm_middle.symm
    have g4 := Good.freezeL (vs := vs) (ds := ds) g3
    exact g4.perm List.perm_middle
theorem fz_of_fzL {k : Nat} {d : D} (h : (fzL ds)[k]? = some d) : fz d = d := by
  rw [fzL_map, List.getElem?_map] at h
  obtain ⟨e, _, rfl⟩ := Option.map_eq_some_iff.mp h
  exact fz_fz e
/-- for x in xs, xs a name that stays -/
def forB (i : Nat) (tg : D → M Unit) (body : M Flw) : M Flw := do
  let a ← peek i
  match a with
  | .lst o ds => (do
    setv i none
    let fl ← loopM tg body (fzL ds)
    match fl with
    | .nx => (do { setv i (some (.lst o (fzL ds))); pure .nx })
    | x => pure x)
  | _ => badM
theorem SOk.forB {W W' : List Nat} {i : Nat} {g : TG} {tb : TS} {tg : D → M Unit} {body : M Flw} (hg : GOk c W g tg) (hb : SOk c EX W' tb body) (hi : i ∉ W ++ W') : SOk c EX (W ++ W') (tFor (iList c.K (tVar i)) g tb) (forB i tg body) := fun H σ ρ T Dn ft gd p => by
  obtain ⟨a, ea, p1⟩ := peek_post.mp (bind_post.mp p)
  obtain ⟨v, k⟩ := ft.has i a ea
  refine ⟨v, k, ?_⟩
  cases a with
  | lst o ds =>
    have p2 := bind_post.mp p1
    rw [setv_post] at p2
    have p3 := bind_post.mp p2
    have g1 := slot_out gd ea k
    -- the list apart, its things shared
    obtain ⟨q, vs, U, ev, hr, hl, g2, sq, back⟩ : ∃ (q : Addr) (vs : List V) (U : List (V × D)), v = .ref q ∧ Rd H q (.lst vs) ∧ vs.length = ds.length ∧ Good c H [] (vs.zip (fzL ds) ++ (U ++ (T ++ sl σ (ρ.set i none)))) ∧
        (∀ H' L', Good c H' [] (vs.zip (fzL ds) ++ (U ++ L')) → SqL c.K H' q vs) ∧ ∀ H' L', Good c H' [] (vs.zip (fzL ds) ++ (U ++ L')) → Good c H' [] ((v, .lst o (fzL ds)) :: L') := by
      cases o with
      | true =>
        obtain ⟨q, vs, ev, hp, hl, g3⟩ := g1.apart
        have g4 : Good c H [] (vs.zip ds ++ ([(v, .lst true (vs.map .val))] ++ (T ++ sl σ (ρ.set i none)))) := g3.perm (List.perm_middle (l₁ := vs.zip ds)).symm
        refine ⟨q, vs, [(v, .lst true (vs.map .val))], ev, .of hp, hl, g4.freezeL, fun H' L' g5 => ?_, fun H' L' g5 => ?_⟩
        · have g6 : Good c H' [] ((v, .lst true (vs.map .val)) :: (vs.zip (fzL ds) ++ L')) := g5.perm (List.perm_middle (l₁ := vs.zip (fzL ds)))
          obtain ⟨q', ws, e', hp', hl', g7⟩ := g6.openL
          rw [ev] at e'
          cases e'
          have key : ∀ (us ws : List V) {L' : List (V × D)}, ws.length = us.length → Good c H' [q] (ws.zip (us.map D.val) ++ L') → ws = us := by
            intro us
            induction us with
            | nil => intro ws L' h _; exact List.length_eq_zero_iff.mp h
            | cons u us ih =>
              intro ws L' h g
              cases ws with
              | nil => cases h
              | cons w ws =>
                have g' : Good c H' [q] ((w, .val u) :: (ws.zip (us.map D.val) ++ L')) := g
                rw [ih ws (Nat.succ.inj h) g'.tail, g'.isV]
          have ew : ws = vs := key vs ws (by rw [hl', List.length_map]) g7
          subst ew
          exact .inl (.of hp')
        · have g6 : Good c H' [] ((v, .lst true (vs.map .val)) :: (vs.zip (fzL ds) ++ L')) := g5.perm (List.perm_middle (l₁ := vs.zip (fzL ds)))
          exact g6.refill (by rw [fzL_len]; exact hl)
      | false =>
        have g2 := g1.dup
        simp only [fz] at g2
        obtain ⟨q, vs, ev, hr, hl, g3⟩ := g2.readL
        rw [fzL_len] at hl
        refine ⟨q, vs, [(v, .seq vs), (v, .lst false (fzL ds))], ev, hr, hl, g3, fun H' L' g5 => ?_, fun H' L' g5 => ?_⟩
        · have g6 : Good c H' [] ((v, .seq vs) :: ((v, .lst false (fzL ds)) :: L')) := g5.sub (List.sublist_append_right _ _)
          obtain ⟨q', e', s⟩ := g6.seqAt
          rw [ev] at e'
          cases e'
          exact s
        · have g6 : Good c H' [] ((v, .seq vs) :: ((v, .lst false (fzL ds)) :: L')) := g5.sub (List.sublist_append_right _ _)
          exact g6.tail
    refine ⟨q, ev, ⟨vs, .inl hr⟩, ?_⟩
    -- what the turns must leave
    have hlf : vs.length = (fzL ds).length := by rw [fzL_len]; exact hl
    have p4 : OPost (FPost c (W ++ W') (vs.zip (fzL ds) ++ (U ++ T)) σ Dn) (XPostS c EX (W ++ W') (vs.zip (fzL ds) ++ (U ++ T)) σ) (loopM tg body (fzL ds) (ρ.set i none)) := by
      refine p3.imp (fun fl ρ1 q1 => ?_) fun x ρ1 q1 σ1 a1 => (q1 σ1 a1).sub ((List.sublist_append_right U T).trans (List.sublist_append_right _ _))
      cases fl with
      | nx =>
        have q2 := bind_post.mp q1
        rw [setv_post] at q2
        intro σ1 H1 a1 f1 gg
        have hv1 : σ1[i]? = some (some v) := (a1.at' i hi).trans k
        have hir : i < ρ1.length := by rw [← f1.len]; exact ltE hv1
        refine q2 σ1 H1 a1 (f1.put hv1 (by intro z; cases z)) ?_
        rw [List.append_assoc, List.append_assoc] at gg
        have g5 := back H1 _ gg
        exact slot_in (g5.sub (List.Sublist.cons_cons _ (List.Sublist.append (.refl T) sl_sub))) hir hv1
      | bk => exact fun σ1 H1 a1 f1 gg => q1 σ1 H1 a1 f1 (gg.sub (List.Sublist.append ((List.sublist_append_right U T).trans (List.sublist_append_right _ _)) (.refl _)))
      | ct => exact fun σ1 H1 a1 f1 gg => q1 σ1 H1 a1 f1 (gg.sub (List.Sublist.append ((List.sublist_append_right U T).trans (List.sublist_append_right _ _)) (.refl _)))
      | rt x => exact fun w σ1 H1 a1 f1 gg => q1 w σ1 H1 a1 f1 (gg.sub (List.Sublist.cons_cons _ (List.Sublist.append ((List.sublist_append_right U T).trans (List.sublist_append_right _ _)) (.refl _))))
    have g5 : Good c H [] ((vs.zip (fzL ds) ++ (U ++ T)) ++ sl σ (ρ.set i none)) := by
      rw [List.append_assoc, List.append_assoc]
      exact g2
    refine for_list (K := c.K) (a := q) (xs := vs) (fun n σ' H' => ∃ ρ', Agr (W ++ W') σ σ' ∧ Fit c σ' ρ' ∧ Good c H' [] ((vs.zip (fzL ds) ++ (U ++ T)) ++ sl σ' ρ') ∧
      OPost (FPost c (W ++ W') (vs.zip (fzL ds) ++ (U ++ T)) σ Dn) (XPostS c EX (W ++ W') (vs.zip (fzL ds) ++ (U ++ T)) σ) (loopM tg body ((fzL ds).drop n) ρ')) ⟨ρ.set i none, .refl, ft.none, g5, p4⟩ (fun n σ' H' _ h => ?_) (fun n x σ' H' hx h => ?_) (fun σ' H' h => ?_)
    · obtain ⟨ρ', _, _, gg, _⟩ := h
      rw [List.append_assoc, List.append_assoc] at gg
      exact sq H' _ gg
    · obtain ⟨ρ', ag, f', gg, p'⟩ := h
      have hk : n < (fzL ds).length := by rw [← hlf]; exact ltE hx
      have hd := List.getElem?_eq_getElem hk
      rw [drop_at hd] at p'
      have ge : Good c H' [] (vs.zip (fzL ds) ++ ((U ++ T) ++ sl σ' ρ')) := by rw [List.append_assoc] at gg; exact gg
      have g6 := ge.at hx hd
      rw [fz_of_fzL hd] at g6
      have es : (fzL ds).set n (fzL ds)[n] = fzL ds := List.set_getElem_self hk
      rw [es] at g6
      have g7 : Good c H' [] ((x, (fzL ds)[n]) :: ([] ++ ((vs.zip (fzL ds) ++ (U ++ T)) ++ sl σ' ρ'))) := by
        rw [List.nil_append, List.append_assoc]
        exact g6
      refine turn_ok hg hb (U := []) (T := vs.zip (fzL ds) ++ (U ++ T)) (σ0 := σ) (D := Dn) f' g7 ag p' fun σ2 H2 ρ2 ag2 f2 g2 p2 => ⟨ρ2, ag2, f2, g2, p2⟩
    · obtain ⟨ρ', ag, f', gg, p'⟩ := h
      rw [List.drop_eq_nil_of_le (by omega)] at p'
      exact p' σ' H' ag f' gg
  | _ => exact p1.elim
end
end Mir
end
section
set_option Elab.async false
set_option linter.all false
set_option maxRecDepth 100000
set_option maxHeartbeats 4000000
/-! Mir13: a comprehension over a list that stays whose it is. -/
namespace Mir
open PySem PySem.Spec PyProof.Rows L2
section
variable {c : Cn} {EX : XW} {H : Hp} {L : List (V × D)} {v : V} {ds : List D} {o : Bool}
/-- a list of a name, its things told apart and shared, and the way back -/
theorem Good.lay (g1 : Good c H [] ((v, .lst o ds) :: L)) : ∃ (q : Addr) (vs : List V) (U : List (V × D)), v = .ref q ∧ Rd H q (.lst vs) ∧ vs.length = ds.length ∧ Good c H [] (vs.zip (fzL ds) ++ (U ++ L)) ∧
    (∀ H' L', Good c H' [] (vs.zip (fzL ds) ++ (U ++ L')) → SqL c.K H' q vs) ∧ ∀ H' L', Good c H' [] (vs.zip (fzL ds) ++ (U ++ L')) → Good c H' [] ((v, .lst o (fzL ds)) :: L') := by
  cases o with
  | true =>
    obtain ⟨q, vs, ev, hp, hl, g3⟩ := g1.apart
    have g4 : Good c H [] (vs.zip ds ++ ([(v, .lst true (vs.map .val))] ++ (L))) := g3.perm (List.perm_middle (l₁ := vs.zip ds)).symm
    refine ⟨q, vs, [(v, .lst true (vs.map .val))], ev, .of hp, hl, g4.freezeL, fun H' L' g5 => ?_, fun H' L' g5 => ?_⟩
    · have g6 : Good c H' [] ((v, .lst true (vs.map .val)) :: (vs.zip (fzL ds) ++ L')) := g5.perm (List.perm_middle (l₁ := vs.zip (fzL ds)))
      obtain ⟨q', ws, e', hp', hl', g7⟩ := g6.openL
      rw [ev] at e'
      cases e'
      have key : ∀ (us ws : List V) {L' : List (V × D)}, ws.length = us.length → Good c H' [q] (ws.zip (us.map D.val) ++ L') → ws = us := by
        intro us
        induction us with
        | nil => intro ws L' h _; exact List.length_eq_zero_iff.mp h
        | cons u us ih =>
          intro ws L' h g
          cases ws with
          | nil => cases h
          | cons w ws =>
            have g' : Good c H' [q] ((w, .val u) :: (ws.zip (us.map D.val) ++ L')) := g
            rw [ih ws (Nat.succ.inj h) g'.tail, g'.isV]
      have ew : ws = vs := key vs ws (by rw [hl', List.length_map]) g7
      subst ew
      exact .inl (.of hp')
    · have g6 : Good c H' [] ((v, .lst true (vs.map .val)) :: (vs.zip (fzL ds) ++ L')) := g5.perm (List.perm_middle (l₁ := vs.zip (fzL ds)))
      exact g6.refill (by rw [fzL_len]; exact hl)
  | false =>
    have g2 := g1.dup
    simp only [fz] at g2
    obtain ⟨q, vs, ev, hr, hl, g3⟩ := g2.readL
    rw [fzL_len] at hl
    refine ⟨q, vs, [(v, .seq vs), (v, .lst false (fzL ds))], ev, hr, hl, g3, fun H' L' g5 => ?_, fun H' L' g5 => ?_⟩
    · have g6 : Good c H' [] ((v, .seq vs) :: ((v, .lst false (fzL ds)) :: L')) := g5.sub (List.sublist_append_right _ _)
      obtain ⟨q', e', s⟩ := g6.seqAt
      rw [ev] at e'
      cases e'
      exact s
    · have g6 : Good c H' [] ((v, .seq vs) :: ((v, .lst false (fzL ds)) :: L')) := g5.sub (List.sublist_append_right _ _)
      exact g6.tail
def lcB (vs : List Nat) (i : Nat) (tg : D → M Unit) (tst : M Bool) (elt : M D) : M D := do
  let a ← peek i
  match a with
  | .lst o ds => (do
    setv i none
    wipeM vs
    let r ← noX (compM vs tg tst elt (fzL ds) [])
    setv i (some (.lst o (fzL ds)))
    pure (.lst true r))
  | _ => badM
theorem TOk.lcB {vs : List Nat} {W : List Nat} {i : Nat} {g : TG} {tt : TT} {te : TE} {tg : D → M Unit} {tst : M Bool} {elt : M D} (hg : GOk c W g tg) (ht : TtOk c EXF tt tst) (he : TOk c EXF te elt) (hw : ∀ i ∈ W, i ∈ vs := by decide) :
    TOk c EX (tLc (iList c.K (tVar i)) g tt te vs) (lcB vs i tg tst elt) := fun H σ ρ T Q ft gd p => by
  obtain ⟨a, ea, p1⟩ := peek_post.mp (bind_post.mp p)
  obtain ⟨v, k⟩ := ft.has i a ea
  refine ⟨v, k, ?_⟩
  cases a with
  | lst o ds =>
    have p2 := bind_post.mp p1
    rw [setv_post] at p2
    have p3 := wipeM_post.mp (bind_post.mp p2)
    have g1 := slot_out gd ea k
    obtain ⟨q, ws, U, ev, hr, hl, g2, sq, back⟩ := g1.lay
    refine ⟨q, ev, ⟨ws, .inl hr⟩, fun Da hD => ?_⟩
    have hlf : ws.length = (fzL ds).length := by rw [fzL_len]; exact hl
    have q3 : OPost (fun r ρ' => ∀ H', Fit c (wipe σ vs) ρ' → Good c H' [] ((.ref Da, .lst true r) :: ((ws.zip (fzL ds) ++ (U ++ T)) ++ sl (wipe σ vs) ρ')) → Q (.ref Da) H') (fun _ _ => False) (compM vs tg tst elt (fzL ds) [] (Mir.wipeD (ρ.set i none) vs)) :=
      (compM_dead (noX_post (bind_post.mp p3))).imp (fun r ρ' ⟨dd, qq⟩ H' fx gx => by
        have q2 := bind_post.mp qq
        rw [setv_post] at q2
        rw [sl_wipe' dd] at gx
        have f1 : Fit c σ ρ' := ⟨by rw [← fx.len, wipe_length], fun i d e => by
          obtain ⟨v, k⟩ := fx.has i d e
          exact ⟨v, (wipe_some k).1⟩, fun i e => by
          obtain ⟨a, e', k⟩ := fx.exn i e
          exact ⟨a, e', (wipe_some k).1⟩⟩
        have hir : i < ρ'.length := by rw [← f1.len]; exact ltE k
        have g5 : Good c H' [] (ws.zip (fzL ds) ++ (U ++ ((.ref Da, .lst true r) :: (T ++ sl σ ρ')))) := by
          refine gx.perm ?_
          have e1 : ws.zip (fzL ds) ++ (U ++ ((V.ref Da, D.lst true r) :: (T ++ sl σ ρ'))) = (ws.zip (fzL ds) ++ U) ++ ((V.ref Da, D.lst true r) :: (T ++ sl σ ρ')) := by rw [List.append_assoc]
          have e2 : (ws.zip (fzL ds) ++ (U ++ T)) ++ sl σ ρ' = (ws.zip (fzL ds) ++ U) ++ (T ++ sl σ ρ') := by simp only [List.append_assoc]
          rw [e1, e2]
          exact List.perm_middle.symm
        have g6 := back H' _ g5
        refine q2 (.ref Da) H' (f1.put k (by intro z; cases z)) ?_
        exact slot_in (T := (.ref Da, .lst true r) :: T) (g6.sub (List.Sublist.cons_cons _ (List.Sublist.cons_cons _ (List.Sublist.append (.refl T) sl_sub)))) hir k) fun _ _ z => z
    have g5 : Good c H [] ((ws.zip (fzL ds) ++ (U ++ T)) ++ sl σ (ρ.set i none)) := by
      rw [List.append_assoc, List.append_assoc]
      exact g2
    refine lc_list (K := c.K) (a := q) (xs := ws) (fun n H' => ∃ ρ' acc, Fit c (wipe σ vs) ρ' ∧ Good c H' [] ((.ref Da, .lst true acc) :: [] ++ ((ws.zip (fzL ds) ++ (U ++ T)) ++ sl (wipe σ vs) ρ')) ∧
      OPost (fun r ρ' => ∀ H', Fit c (wipe σ vs) ρ' → Good c H' [] ((.ref Da, .lst true r) :: ((ws.zip (fzL ds) ++ (U ++ T)) ++ sl (wipe σ vs) ρ')) → Q (.ref Da) H') (fun _ _ => False) (compM vs tg tst elt ((fzL ds).drop n) acc ρ')) ⟨Mir.wipeD (ρ.set i none) vs, [], ft.none.wipe, ?_, q3⟩ (fun n H' _ h => ?_) (fun n x H' hx h => ?_) (fun H' h => ?_)
    · have g4 : Good c H [] (([] : List V).zip [] ++ ((ws.zip (fzL ds) ++ (U ++ T)) ++ sl (wipe σ vs) (Mir.wipeD (ρ.set i none) vs))) := by
        refine g5.sub ?_
        rw [sl_wipe]
        show ((ws.zip (fzL ds) ++ (U ++ T)) ++ sl σ (Mir.wipeD (ρ.set i none) vs)).Sublist _
        exact List.Sublist.append (.refl _) sl_wipe_sub
      exact g4.newL rfl hD (by simp)
    · obtain ⟨ρ', acc, _, g, _⟩ := h
      have g6 : Good c H' [] ((ws.zip (fzL ds) ++ (U ++ T)) ++ sl (wipe σ vs) ρ') := g.tail
      rw [List.append_assoc, List.append_assoc] at g6
      exact sq H' _ g6
    · obtain ⟨ρ', acc, f', g', p'⟩ := h
      have hk : n < (fzL ds).length := by rw [← hlf]; exact ltE hx
      have hd := List.getElem?_eq_getElem hk
      rw [drop_at hd] at p'
      have ge : Good c H' [] (ws.zip (fzL ds) ++ (((U ++ T) ++ sl (wipe σ vs) ρ') ++ [(.ref Da, .lst true acc)])) := by
        refine g'.perm ?_
        have e2 : ws.zip (fzL ds) ++ (((U ++ T) ++ sl (wipe σ vs) ρ') ++ [(V.ref Da, D.lst true acc)]) = ((ws.zip (fzL ds) ++ (U ++ T)) ++ sl (wipe σ vs) ρ') ++ [(V.ref Da, D.lst true acc)] := by simp only [List.append_assoc]
        rw [e2]
        exact (List.perm_append_singleton _ _).symm
      have g6 := ge.at hx hd
      rw [fz_of_fzL hd] at g6
      have es : (fzL ds).set n (fzL ds)[n] = fzL ds := List.set_getElem_self hk
      rw [es] at g6
      refine cturn (U := []) (T := ws.zip (fzL ds) ++ (U ++ T)) hg hw ht he f' ?_ p' fun H2 ρ2 acc2 f2 g2 p2 => ⟨ρ2, acc2, f2, g2, p2⟩
      refine g6.perm (List.Perm.cons _ ?_)
      have e2 : ws.zip (fzL ds) ++ (((U ++ T) ++ sl (wipe σ vs) ρ') ++ [(V.ref Da, D.lst true acc)]) = ((ws.zip (fzL ds) ++ (U ++ T)) ++ sl (wipe σ vs) ρ') ++ [(V.ref Da, D.lst true acc)] := by simp only [List.append_assoc]
      rw [e2]
      exact List.perm_append_singleton _ _
    · obtain ⟨ρ', acc, f', g', p'⟩ := h
      rw [List.drop_eq_nil_of_le (by omega)] at p'
      exact comp_out (U := []) f' g' p'
  | _ => exact p1.elim
end
end Mir
end
section
set_option Elab.async false
set_option linter.all false
set_option maxRecDepth 100000
set_option maxHeartbeats 2000000
/-! CompE: an exception that leaves a list comprehension (raised by a call in its element or its tests). -/
namespace CompE
open PySem PySem.Spec PyProof.Rows L2

/-- a frame is noted by its place alone -/
theorem note_frame {u : Value} {e1 e2 : Env} (h : e1.frame = e2.frame) : noteFrame u e1 = noteFrame u e2 := by
  unfold noteFrame PySem.frameOf
  rw [h]
/-- behind the block: as compPost, the error with the block's own frame -/
def after (M : Model) (A : Around) (E : Value → Shared → Prop) (use : Option (Value → Sem Unit)) (Q : Value → Shared → Prop) (acc : Value) (C : Addr) (fr : Option Addr) (r : Result) (s' : Shared) : Prop :=
  match r, use with
  | .ok _, none => ∃ m, s'.heap.Ns C m ∧ ∀ h', Heap.SameBut C s'.heap h' → Q acc { s' with heap := h' }
  | .ok _, some u => wpAny M A (u acc) (fun _ s'' => ∃ m, s''.heap.Ns C m ∧ ∀ h', Heap.SameBut C s''.heap h' → Q .none { s'' with heap := h' }) E s'
  | .error x, _ => ∃ m, s'.heap.Ns C m ∧ ∀ h', Heap.SameBut C s'.heap h' → ∀ e1 : Env, e1.frame = fr → wpAny M A (passOn "comprehension.variables-let-go" x e1 : Sem Value) (fun _ _ => False) E { s' with heap := h' }

section
variable {M : Model} {A : Around} {E : Value → Shared → Prop} {s : Shared} {env : Env}
theorem comp_run {e : Expr} {scope : Scope} {pos : Pos} {mk fst : Sem Value} {g : Comprehension} {gs : List Comprehension} {cl : List (Str × Addr)} {use : Option (Value → Sem Unit)} {Q : Value → Shared → Prop}
    (k1 : clausesOf e = g :: gs) (k2 : ∀ x, foldedSetIterable g.iter env x = pure x) (k3 : closureFor scope env = pure cl)
    (k4 : scope.kind = .function) (k5 : ∀ x ∈ scope.names, x.2 = .local → scope.names.lookup x.1 = some .local)
    (go : wpAny M A fst (fun x s1 => wpAny M A (pyIter x) (fun it s2 => wpAny M A mk (fun acc s3 =>
      wpAny M A (newFunctionEnv scope env.globals cl [] env.qual none .none (some env)) (fun ce s4 =>
        codeAny M A (.compStart e 0 it acc { ce with scope := relabel scope env }) (after M A E use Q acc ce.locals ce.frame) s4) E s3) E s2) E s1) E s) :
    wpAny M A (comprehension e scope env pos mk false fst use) Q E s := by
  unfold comprehension
  rw [k3, k1]
  refine wpAny_bind (wpAny_mono go (fun x t1 g1 => wpAny_bind (wpAny_standAt (wpAny_bind (wpAny_of_eq (k2 x) (wpAny_bind (wpAny_holding (wpAny_mono g1 (fun it t2 g2 =>
    wpAny_standIf (wpAny_bind (wpAny_mono g2 (fun acc t3 g3 => wpAny_bind (wpAny_pure (wpAny_bind (wpAny_mono g3 (fun ce t4 g4 => ?_) fun _ _ z => z)))) fun _ _ z => z)))
      fun _ _ z => z))))))) fun _ _ z => z)
  dsimp only
  have nl : ∀ x ∈ (scope.names.filter fun x => (x.2 == .local || x.2 == .cell) && x.1 != (".0" : Str)).reverse, x.2 = .local →
      Env.kindOf { ce with scope := relabel scope env } x.1 = some .local := fun x hx hl => lookup_relabel_local (k5 x (List.mem_filter.mp (List.mem_reverse.mp hx)).1 hl)
  have nl' : ∀ x ∈ (scope.names.filter fun x => (x.2 == .local || x.2 == .cell) && x.1 != (".0" : Str)).reverse.drop 1 ++ (scope.names.filter fun x => (x.2 == .local || x.2 == .cell) && x.1 != (".0" : Str)).reverse.take 1,
      x.2 = .local → Env.kindOf { ce with scope := relabel scope env } x.1 = some .local := fun x hx => by
    rcases List.mem_append.mp hx with y | y
    · exact nl x (List.mem_of_mem_drop y)
    · exact nl x (List.mem_of_mem_take y)
  refine wpAny_holding (wpAny_bind (wpAny_attempt (wpAny_holding (wpAny_run (codeAny_mono g4 fun r t5 g5 => ?_)))))
  cases r with
  | ok f =>
    cases use with
    | none =>
      obtain ⟨m, n1, g6⟩ := g5
      exact wpAny_bind (wpAny_holding (wpAny_comp_letGo (cenv := { ce with scope := relabel scope env }) k4 _ t5 m nl n1 fun h' _ _ b => wpAny_pure (g6 h' b)))
    | some u =>
      refine wpAny_bind (wpAny_rule (wpAny_bind (wpAny_holding (wpAny_mono g5 (fun _ t6 g6 => ?_) fun _ _ z => z))))
      obtain ⟨m, n1, g7⟩ := g6
      exact wpAny_bind (wpAny_comp_letGo (cenv := { ce with scope := relabel scope env }) k4 _ t6 m nl' n1 fun h' _ _ b => wpAny_pure (g7 h' b))
  | error x =>
    have g6 : ∃ m, t5.heap.Ns ce.locals m ∧ ∀ h', Heap.SameBut ce.locals t5.heap h' → ∀ e1 : Env, e1.frame = ce.frame → wpAny M A (passOn "comprehension.variables-let-go" x e1 : Sem Value) (fun _ _ => False) E { t5 with heap := h' } := by
      cases use <;> exact g5
    obtain ⟨m, n1, g7⟩ := g6
    exact wpAny_bind (wpAny_holding (wpAny_comp_letGo (cenv := { ce with scope := relabel scope env }) k4 _ t5 m nl n1 fun h' _ _ b => wpAny_mono (g7 h' b _ rfl) (fun _ _ z => z.elim) fun _ _ z => z))
end

/-- noted at another place (a block's), then at this frame -/
theorem look_other {M : Model} {A : Around} {E : Value → Shared → Prop} {s : Shared} {Z : Obj → Prop} {B : Heap} {env : Env} {outer : List Env} {L L' e : Addr} {Q : Unit → Shared → Prop} (hZ : PXN.Steady1 Z)
    (hfr : A.frames = some (env :: outer)) (hf : env.frame = some L) (ne : L' ≠ L) (hh : HandSPX.HeldZ B (env :: outer) e Z L' s.heap)
    (hQ : ∀ h', HandSPX.HeldZ B (env :: outer) e Z L h' → s.heap.UpToSlots h' → Q () { s with heap := h' }) : wpAny M A (noteFrame (.ref e) env) Q E s := by
  obtain ⟨b1, b2, b3, oe, vs, T, oT, ts, c1, c2, c3, c4, c5, c6, c7, c8, c9⟩ := hh
  unfold noteFrame
  simp only [hf]
  refine wpAny_bind (wpAny_field c1 c3 c4 ?_)
  rw [if_pos (show (Value.ref T != Value.none) = true from by simp)]
  refine wpAny_bind (wpAny_field c7 c8 c9 ?_)
  rw [if_neg (show ¬ ((rawInt L' == rawInt L) = true) from by
    unfold rawInt
    intro z
    have z2 := beq_iff_eq.mp z
    injection z2 with z3
    exact ne (Int.ofNat.inj z3))]
  refine wpAny_bind (wpAny_setField c7 c8 (Array.getElem?_eq_some_iff.mp c9).1 ?_)
  have same : ∀ b, b ≠ T → (s.heap.update T (Obj.mapFields (·.setIfInBounds 3 Value.none))).get? b = s.heap.get? b := fun b hb => Heap.get?_update_other _ _ (Ne.symm hb)
  have noT : ∀ b o, s.heap.get? b = some o → (∀ vs, o.data ≠ .fields vs) → b ≠ T := fun b o x1 x2 x3 => by
    rw [x3, c7] at x1; injection x1 with x1; subst x1; exact x2 ts c8
  refine PXN.wpAny_entryZ hZ hfr (b3.of_keeps fun b o x1 x2 => ⟨o, (same b (noT b o x1 x2)).trans x1, rfl⟩) hf ((same e (Ne.symm c6)).trans c1)
    (fun b o x1 => (same b fun x2 => by rw [x2, c5] at x1; cases x1).trans (b1 b o x1)) b2 c3 (Array.getElem?_eq_some_iff.mp c4).1 c2 fun h' x => ?_
  obtain ⟨y1, y2, y3, y4⟩ := x
  exact hQ h' ⟨y1, b2, y2, y3⟩ fun b o x1 x2 => y4 b o ((same b (noT b o x1 x2)).trans x1) x2

theorem fun_less {B B' h : Heap} (k : ∀ b, B.get? b = none → B'.get? b = none) : ∀ {l : List Env}, h.FunFrames B l → h.FunFrames B' l
  | [], _ => trivial
  | _ :: _, ⟨a, ⟨L, o, b, c, d, e⟩, r⟩ => ⟨a, ⟨L, o, b, k L c, d, e⟩, fun_less k r⟩
theorem fun_keep {B h h' : Heap} : ∀ {l : List Env}, h.FunFrames B l → (∀ b ∈ frs l, h'.get? b = h.get? b) → h'.FunFrames B l
  | [], _, _ => trivial
  | env :: l, ⟨a, ⟨L, o, b, c, d, e⟩, r⟩, k => ⟨a, ⟨L, o, b, c, (k L (List.mem_filterMap.mpr ⟨env, List.mem_cons_self, b⟩)).trans d, e⟩, fun_keep r fun b' hb => by
      obtain ⟨e', x1, x2⟩ := List.mem_filterMap.mp hb
      exact k b' (List.mem_filterMap.mpr ⟨e', List.mem_cons_of_mem _ x1, x2⟩)⟩
section
variable {X : Cx} {pins : List (Addr × Obj)} {σ : L2.St} {H3 : Hp} {s3 : Shared} {fp : List Addr} {scope : Scope} {ce : Env} {E : XK} {E' : Value → Shared → Prop} {use : Option (Value → Sem Unit)} {Qf : Value → Shared → Prop} {acc : Value}
/-- what leaves the block is in the air of the def -/
theorem air_out (I3 : Inv X pins σ H3 s3) (f3 : ∀ b ∈ fp, FpOk X pins H3 b ∧ b < s3.heap.objs.size) (hs : X.stack = X.env :: X.outer) (hf : X.env.frame = some X.env.locals)
    (tk : L2N.Takes X (fun cls d _ H => E cls d H)) (ceL : ce.locals = s3.heap.objs.size) (ceF : ce.frame = X.env.frame) {u : Value} {s' : Shared}
    (x : L2N.XE ((X.blk s3 H3 scope ce fp).wish E') (fun cls d _ H => E cls d H) u s') :
    notedBy (model X.prog X.w) X.A ce (fun e t => after (model X.prog X.w) X.A X.xe use Qf acc s3.heap.objs.size X.env.frame (.error e) t) u s' := by
  obtain ⟨a, B, sI, pins', σ', H', cls, d, rfl, Ib, nb, up, sky, na, os, ag, w⟩ := x
  have Ib := Ib.unwish
  generalize hC : s3.heap.objs.size = C at ceL ⊢
  have hfr : X.A.frames = some (X.env :: X.outer) := by rw [I3.ok.frames, hs]
  have stk : ∀ b ∈ frs X.stack, b < C := fun b hb => by
    obtain ⟨_, o, ho, _⟩ := I3.stack.mem hb
    rw [← hC]
    exact Heap.lt_size ho
  have nC : C ∉ frs X.stack := fun z => Nat.lt_irrefl _ (stk C z)
  have LC : C ≠ X.env.locals := by
    have := I3.lt
    rw [hC] at this
    exact Nat.ne_of_gt this
  obtain ⟨m, ⟨o, es, ep, ho, hd, r1⟩, _⟩ := Ib.loc
  have ho : sI.heap.get? C = some o := by rw [← ceL]; exact ho
  have hB : B.get? C = some o := nb C o ho nC
  have free : H' C = none := by rw [← ceL]; exact Ib.free
  -- held by this frame, whatever it was before
  have fin : ∀ h1, HandSPX.HeldZ B (X.env :: X.outer) a (L2N.Zn cls d) X.env.locals h1 → s'.heap.UpToSlots h1 →
      after (model X.prog X.w) X.A X.xe use Qf acc C X.env.frame (.error (.ref a)) { s' with heap := h1 } := fun h1 hh up1 => by
    obtain ⟨st, na2, ff, oe, vs, T, oT, ts, c1, c2, c3, c4, c5, c6, c7, c8, c9⟩ := hh
    have aC : a ≠ C := fun z => by rw [z, hB] at na2; cases na2
    have TC : T ≠ C := fun z => by rw [z, hB] at c5; cases c5
    refine ⟨m, ⟨o, es, ep, st C o hB, hd, r1⟩, fun h2 sb e1 he1 => ?_⟩
    have g2 : ∀ b, b ≠ C → h2.get? b = h1.get? b := fun b hb => sb.2 b hb
    unfold PySem.passOn
    refine wpAny_bind (wpAny_field (s := { s' with heap := h2 }) ((g2 a aC).trans c1) c3 c4 ?_)
    rw [if_neg (show ¬ ((Value.ref T == Value.none) = true) from by simp)]
    have B'n : ∀ b, B.get? b = none → (PySem.W.hideAll B [C]).get? b = none := fun b hb => by
      cases q : (PySem.W.hideAll B [C]).get? b with
      | none => rfl
      | some o' => rw [PySem.W.of_hideAll _ q] at hb; cases hb
    have st2 : (PySem.W.hideAll B [C]).StaysIn h2 := fun b o' hb => by
      have nb' : b ≠ C := fun z => by
        rw [PySem.W.hideAll_none [C] (by rw [z]; exact List.mem_cons_self)] at hb; cases hb
      exact (g2 b nb').trans (st b o' (PySem.W.of_hideAll _ hb))
    have ff2 : h2.FunFrames (PySem.W.hideAll B [C]) (X.env :: X.outer) := fun_less B'n (fun_keep ff fun b hb => g2 b fun z => nC (by rw [hs, ← z]; exact hb))
    have go : wpAny (model X.prog X.w) X.A (setFlight (.ref a) e1.frame) (fun _ s4 => wpAny (model X.prog X.w) X.A (throw (.ref a) : Sem Value) (fun _ _ => False) X.xe s4) X.xe { s' with heap := h2 } := by
      rw [he1, hf]
      refine HandSPX.setFlight_anyZ (s := { s' with heap := h2 }) (fr := some X.env.locals) st2 ff2 ⟨oe, vs, T, oT, ts, (g2 a aC).trans c1, c2, c3, c4, B'n T c5, c6, (g2 T TC).trans c7, c8, c9⟩ fun h3 k1 k2 k3 k4 => wpAny_throw (tk _ _ ?_)
      -- the state without the block's own dict and the exception
      have gI : ∀ b o', (PySem.W.hideAll sI.heap [C]).get? b = some o' → sI.heap.get? b = some o' ∧ b ≠ C := fun b o' hb => ⟨PySem.W.of_hideAll _ hb, fun z => by
        rw [PySem.W.hideAll_none [C] (by rw [z]; exact List.mem_cons_self)] at hb; cases hb⟩
      have kI : ∀ b o', sI.heap.get? b = some o' → b ≠ C → (PySem.W.hideAll sI.heap [C]).get? b = some o' := fun b o' hb z => PySem.W.hideAll_get _ hb (by simpa using z)
      have lt3 : ∀ b o', s3.heap.get? b = some o' → b ≠ C := fun b o' hb z => by
        have := Heap.lt_size hb
        rw [z, hC] at this
        exact Nat.lt_irrefl _ this
      have ub : Un (frs X.stack) fp H3 H' s3.heap sI.heap := Ib.base
      have I7 : Inv X pins σ H' { sI with heap := PySem.W.hideAll sI.heap [C] } := I3.call' (ch := fp) Ib.os
        ⟨fun b o' x1 x2 x3 x4 => kI b o' (ub.keep b o' x1 x2 x3 x4) (lt3 b o' x1), fun b o' x1 x2 x3 x4 => by
          obtain ⟨sl, q⟩ := ub.slot b o' x1 x2 x3 x4
          exact ⟨sl, kI b _ q (lt3 b o' x1)⟩, ub.free, fun b o' x1 x4 => by
          obtain ⟨o2, q⟩ := ub.there b o' x1 x4
          exact ⟨o2, kI b _ q (lt3 b o' x1)⟩, ub.tups, ub.frzs, ub.tbls⟩
        (fun b o' q => (Ib.hok b o' q).stay (fun c u hc r => kI c u r fun z => by
          rcases hc with hc | hc
          · rw [← hc, z, free] at q; cases q
          · rw [z, free] at hc; cases hc) (fun _ r => r) fun _ _ r => r) Ib.bare
        fun b hb => ⟨(f3 b hb).1.2.2.2.1, (f3 b hb).1.2.1, (f3 b hb).1.2.2.2.2.1, (f3 b hb).1.2.2.2.2.2⟩
      refine ⟨a, PySem.W.hideAll B [C], _, pins, σ, H', cls, d, rfl, I7, fun b o' x1 x2 => ?_, fun b o' x1 x2 => ?_, .inr (.inr (by rw [hs]; exact ⟨k1, B'n a na2, k2, k3⟩)), na, os, ag, w⟩
      · obtain ⟨y1, y2⟩ := gI b o' x1
        exact PySem.W.hideAll_get _ (nb b o' y1 x2) (by simpa using y2)
      · obtain ⟨y1, y2⟩ := gI b o' x1
        obtain ⟨s1, z1⟩ := up b o' y1 x2
        obtain ⟨s2, z2⟩ := up1 b _ z1 x2
        obtain ⟨s4, z4⟩ := k4 b _ ((g2 b y2).trans z2) x2
        exact ⟨s4, z4⟩
    first
      | exact wpAny_bind (wpAny_pure (wpAny_bind go))
      | exact wpAny_bind go
  show wpAny _ X.A (noteFrame (.ref a) ce) _ _ _
  rw [note_frame ceF]
  have sky : Sky B (X.env :: X.outer) a (L2N.Zn cls d) C s'.heap := by rw [← hs, ← ceL]; exact sky
  rcases sky with ⟨y1, y2, y3, oe, vs, y4, y5, y6, y7⟩ | fl | hh
  · exact PXN.look_newZ L2N.Zn.steady hfr y3 hf y4 y1 y2 y6 y7 y5 fin
  · exact PXN.looks_onZ L2N.Zn.steady hfr hf fl fin
  · exact look_other L2N.Zn.steady hfr hf LC hh fin
end

section
variable {X : Cx} {E : XK}
abbrev XF (E : XK) : L2.WX := fun cls d _ H => E cls d H
/-- the block's context, with a wish about what leaves it -/
abbrev blkW (X : Cx) (s : Shared) (H : Hp) (scope : Scope) (ce : Env) (fp : List Addr) (E' : Value → Shared → Prop) : Cx := (X.blk s H scope ce fp).wish E'
theorem core {pins : List (Addr × Obj)} {s : Shared} {σ : L2.St} {H : Hp} {Q : VK} {elt tg iter : Expr} {ifs : List Expr} {scope : Scope} {own : List (Str × Nat)} {pos pos' : Pos} {wi : TI} {g : TG} {tt : TT} {te : TE} {use : Option (Value → Sem Unit)} {Qf : Value → Shared → Prop}
    (hc : X.calm = true) (hN : X.N.Nodup) (hsk : X.stack = X.env :: X.outer) (hfr : X.env.frame = some X.env.locals) (tk : L2N.Takes X (XF E)) (I : Inv X pins σ H s) (hi : PI X tg iter wi) (ok : BlkOk X.N X.env.scope scope own)
    (hg : ∀ (s : Shared) (H : Hp) (C : Addr) (cl : List (Str × Addr)) (fp : List Addr), PG (X.blk s H scope (compEnvC scope cl C X.env) fp) tg g)
    (ht : ∀ (s : Shared) (H : Hp) (C : Addr) (cl : List (Str × Addr)) (fp : List Addr), PTs (X.blk s H scope (compEnvC scope cl C X.env) fp) ifs tt)
    (he : ∀ (s : Shared) (H : Hp) (C : Addr) (cl : List (Str × Addr)) (fp : List Addr) (E' : Value → Shared → Prop), L2N.Takes (blkW X s H scope (compEnvC scope cl C X.env) fp E') (XF E) → PE (blkW X s H scope (compEnvC scope cl C X.env) fp E') elt te)
    (hs : ∀ x, foldedSetIterable iter X.env x = pure x) (h : tLc wi g tt te (own.map (·.2)) σ H Q)
    (hR : ∀ D C s' m H', Inv X pins σ H' s' → Q (.ref D) H' → s'.heap.Ns C m → FpOk X pins H' C → after (model X.prog X.w) X.A X.xe use Qf (.ref D) C X.env.frame (.ok .next) s') :
    wpAny (model X.prog X.w) X.A (comprehension (.ListComp elt [⟨tg, iter, ifs, 0⟩] scope pos) scope X.env pos' (newList []) false (eval iter X.env) use) Qf X.xe s := by
  have fv : ∀ y ∈ scope.names, y.2 = .free → ∃ c, X.env.cells.lookup y.1 = some c := fun y hy e => by
    rcases ok.free y hy e with k | k
    · exact I.ok.has _ (.inl k)
    · exact I.ok.has _ (.inr k)
  refine comp_run (use := use) rfl hs (closure_ok fv) ok.kind (fun y hy e => by rw [ok.uniq y hy, e]) (thn (hi.run pins s σ H _ I h) fun xv t1 hx => thn hx fun itv t2 h2 => ?_)
  obtain ⟨it, fp, tn, J, H2, rfl, I2, T, st2, f2, q⟩ := h2
  refine wpAny_newObj_type (newEnv_comp ?_) (by show 0 ≤ sizeLine; decide)
  generalize hD : t2.heap.objs.size = D
  obtain ⟨W, ⟨m0, w0⟩, turn⟩ := q D (I2.hok.fresh (Nat.le_of_eq hD))
  generalize hs3 : ({ t2 with heap := t2.heap.push { cls := .type "list", data := .seq ([] : List Value).toArray } } : Shared) = t3
  have h3 : t3.heap = t2.heap.push { cls := .type "list", data := .seq ([] : List Value).toArray } := by rw [← hs3]
  have I3 : Inv X pins σ (upd H2 D (.lst [])) t3 := by
    rw [← hs3]
    refine I2.laid (t' := t2.toks) (fun b o => Heap.get?_push_of_some _) (Nat.le_of_eq hD) ⟨Nat.zero_le _, [], 0, .nil, ?_⟩
    rw [← hD]
    exact Heap.get?_push_size _ rfl
  have f3 : ∀ b ∈ fp, FpOk X pins (upd H2 D (.lst [])) b ∧ b < t3.heap.objs.size := fun b hb => by
    obtain ⟨o, e, _⟩ := T.obj _ _ st2 b hb
    have lt := Heap.lt_size e
    refine ⟨⟨?_, (f2 b hb).2⟩, by rw [h3, Heap.size_push]; exact Nat.lt_succ_of_lt lt⟩
    rw [upd_ne (by rw [← hD]; exact Nat.ne_of_lt lt)]
    exact (f2 b hb).1
  have st3 : tn 0 t3.heap := T.keep _ _ _ st2 fun b _ o e => by rw [h3]; exact Heap.get?_push_of_some _ e
  have I4 := block_start I3 ok hN f3
  have pg := hg t3 (upd H2 D (.lst [])) t3.heap.objs.size (cellsFrom (t3.heap.objs.size + 1) scope.names (cloFrom X.env.cells scope.names [])) fp
  have pt := ht t3 (upd H2 D (.lst [])) t3.heap.objs.size (cellsFrom (t3.heap.objs.size + 1) scope.names (cloFrom X.env.cells scope.names [])) fp
  have pe := he t3 (upd H2 D (.lst [])) t3.heap.objs.size (cellsFrom (t3.heap.objs.size + 1) scope.names (cloFrom X.env.cells scope.names [])) fp
  show codeAny _ _ (.compStart (.ListComp elt [⟨tg, iter, ifs, 0⟩] scope pos) 0 (.ref it) (.ref D) (compEnvC scope (cellsFrom (t3.heap.objs.size + 1) scope.names (cloFrom X.env.cells scope.names [])) t3.heap.objs.size X.env))
    (after (model X.prog X.w) X.A X.xe use Qf (.ref D) t3.heap.objs.size X.env.frame) { t3 with heap := pushCells (t3.heap.push { cls := .type "dict", data := .dict #[] }) scope.names }
  have n0 : ∀ b ∈ fp, (upd H2 D (.lst [])) b = none := fun b hb => (f3 b hb).1.1
  generalize hce : compEnvC scope (cellsFrom (t3.heap.objs.size + 1) scope.names (cloFrom X.env.cells scope.names [])) t3.heap.objs.size X.env = ce at I4 pg pt pe ⊢
  have cL : ce.locals = t3.heap.objs.size := by subst hce; rfl
  have cF : ce.frame = X.env.frame := by subst hce; rfl
  generalize hH3 : upd H2 D (.lst []) = H3 at I3 I4 pg pt pe w0 n0 f3
  generalize hs4 : ({ t3 with heap := pushCells (t3.heap.push { cls := .type "dict", data := .dict #[] }) scope.names } : Shared) = t4 at I4 ⊢
  have st4 : tn 0 t4.heap := T.keep _ _ _ st3 fun b _ o e => by rw [← hs4]; exact pushCells_keeps _ _ _ _ (Heap.get?_push_of_some _ e)
  have stat : ∀ {σ' : L2.St} {H' : Hp} {s' : Shared}, Inv (X.blk t3 H3 scope ce fp) [] σ' H' s' → (∀ b ∈ fp, H' b = none) → ∀ b ∈ fp, FpOk (X.blk t3 H3 scope ce fp) [] H' b := fun {σ' H' s'} I' hn b hb =>
    ⟨hn b hb, (I'.ok.exf b hb).1, I'.ok.exfs b hb, .inl hb, fun x c => (I'.ok.exf b hb).2 x c, fun p hp => nomatch (show p ∈ ([] : List (Addr × Obj)) from hp)⟩
  have pe := pe (notedBy (model X.prog X.w) X.A ce fun e t => after (model X.prog X.w) X.A X.xe use Qf (.ref D) t3.heap.objs.size X.env.frame (.error e) t) fun u s' x => air_out I3 f3 hsk hfr tk cL cF x
  have loop : codeAny (model X.prog X.w) X.A (.compLoop (.ListComp elt [⟨tg, iter, ifs, 0⟩] scope pos) 0 (.ref it) (.ref D) ce) (after (model X.prog X.w) X.A X.xe use Qf (.ref D) t3.heap.objs.size X.env.frame) t4 := by
    refine compLoop_any (fun n s' => ∃ i H', Inv (X.blk t3 H3 scope ce fp) [] (wipe σ (own.map (·.2))) H' s' ∧ tn i s'.heap ∧ (∀ b ∈ fp, H' b = none) ∧ W i n H') ?_ m0 ⟨0, H3, I4, st4, n0, w0⟩
    rintro n t5 ⟨i, H5, I5, st5, n5, w5⟩
    rcases turn i n H5 w5 with ⟨stop, qq⟩ | ⟨go, Nx, hNx, step⟩
    · refine thnF (T.done (X.blk t3 H3 scope ce fp) rfl rfl rfl hc i [] t5 _ H5 (fun _ _ => False) I5 (stat I5 n5) st5 stop) fun r t6 ⟨hr, I6⟩ => ?_
      subst hr
      have I7 : Inv X pins σ H5 t6 := I3.call' (ch := fp) I6.os I6.base I6.hok I6.bare fun b hb => ⟨(f3 b hb).1.2.2.2.1, (f3 b hb).1.2.1, (f3 b hb).1.2.2.2.2.1, (f3 b hb).1.2.2.2.2.2⟩
      have nC : H5 t3.heap.objs.size = none := by rw [← cL]; exact I6.free
      obtain ⟨m, hn, _⟩ := I6.loc
      exact hR D t3.heap.objs.size t6 m H5 I7 qq (by rw [← cL]; exact hn) (I3.fpOk (Nat.le_refl _) nC)
    · refine thnF (T.item (X.blk t3 H3 scope ce fp) rfl rfl rfl hc i [] t5 _ H5 (fun _ _ => False) I5 (stat I5 n5) st5 go) fun r t6 ⟨u, hr, h6⟩ => ?_
      subst hr
      refine thnF h6 fun _ t7 ⟨x, H7, I7, r7, y7, st7, n7⟩ => ?_
      refine thnF (pg.run _ t7 _ H7 x u _ (I7.pinned (stat I7 n7) (T.obj _ _ st7)) r7 (step x H7 y7)) fun _ t8 ⟨σ8, H8, I8, hw8, q8⟩ => ?_
      refine thnF (pt.run _ t8 σ8 H8 _ I8 q8) fun b t9 ⟨H9, I9, q9⟩ => ?_
      have fin : ∀ {s' : Shared} {H' : Hp}, Inv (X.blk t3 H3 scope ce fp) ([] ++ pinsAt fp t7.heap) σ8 H' s' → Nx H' → ∃ m, m < n ∧ ∃ i H', Inv (X.blk t3 H3 scope ce fp) [] (wipe σ (own.map (·.2))) H' s' ∧ tn i s'.heap ∧ (∀ b ∈ fp, H' b = none) ∧ W i m H' := fun {s' H'} I' nx => by
        obtain ⟨m', hm, w'⟩ := hNx H' nx
        have kept : ∀ b ∈ fp, ∀ o, t7.heap.get? b = some o → s'.heap.get? b = some o ∧ H' b = none := fun b hb o e =>
          let z := I'.pin (b, o) (List.mem_append_right _ (List.mem_append_right _ (mem_pinsAt hb e)))
          ⟨z.1, z.2.1⟩
        refine ⟨m', hm, i + 1, H', (I'.unpinned (pins := [])).weak (by rw [← hw8, wipe_length]) (fun j v e => by rw [← hw8] at e; exact (wipe_some e).1), T.keep _ _ _ st7 fun b hb o e => (kept b hb o e).1, fun b hb => ?_, w'⟩
        obtain ⟨o, e, _⟩ := T.obj _ _ st7 b hb
        exact (kept b hb o e).2
      cases b with
      | false => exact fin I9 (by simpa using q9)
      | true =>
        refine wpAny_mono (pe.run _ t9 σ8 H9 _ (I9.wish _) (by simpa using q9)) (fun z t10 h10 => ?_) fun e t10 h10 => h10
        obtain ⟨yv, H10, I10, r10, acc, hD10, hz10, nx⟩ := h10
        exact app_ok (X := X.blk t3 H3 scope ce fp) I10.unwish hD10 hz10 r10 fun t11 I11 => fin I11 nx
  exact codeAny_compStart_list loop (T.self X.A 0 _ _ _ st4 loop)
/-- as a value -/
theorem pe_lcE {elt tg iter : Expr} {ifs : List Expr} {scope : Scope} {own : List (Str × Nat)} {pos : Pos} {wi : TI} {g : TG} {tt : TT} {te : TE} (hc : X.calm = true) (hN : X.N.Nodup) (hsk : X.stack = X.env :: X.outer) (hfr : X.env.frame = some X.env.locals) (tk : L2N.Takes X (XF E))
    (hi : PI X tg iter wi) (ok : BlkOk X.N X.env.scope scope own)
    (hg : ∀ (s : Shared) (H : Hp) (C : Addr) (cl : List (Str × Addr)) (fp : List Addr), PG (X.blk s H scope (compEnvC scope cl C X.env) fp) tg g)
    (ht : ∀ (s : Shared) (H : Hp) (C : Addr) (cl : List (Str × Addr)) (fp : List Addr), PTs (X.blk s H scope (compEnvC scope cl C X.env) fp) ifs tt)
    (he : ∀ (s : Shared) (H : Hp) (C : Addr) (cl : List (Str × Addr)) (fp : List Addr) (E' : Value → Shared → Prop), L2N.Takes (blkW X s H scope (compEnvC scope cl C X.env) fp E') (XF E) → PE (blkW X s H scope (compEnvC scope cl C X.env) fp E') elt te)
    (hs : ∀ x, foldedSetIterable iter X.env x = pure x := by intro _; rfl) : PE X (.ListComp elt [⟨tg, iter, ifs, 0⟩] scope pos) (tLc wi g tt te (own.map (·.2))) := by
  refine ⟨fun pins s σ H Q I h => ?_⟩
  rw [eval_ListComp]
  refine core hc hN hsk hfr tk I hi ok hg ht he hs h fun D C s' m H' I' q hn f => ⟨m, hn, fun h'' sb => ?_⟩
  obtain ⟨f0, f1, f2, f3, f4, f5⟩ := f
  exact ⟨.ref D, H', I'.turned (t' := s'.toks) (fun b o hb e => (sb.2 b hb).trans e) f0 f1 f3 f4 f5, rfl, q⟩
/-- y = [..] -/
theorem ps_setLcE {i : Nat} {y : Str} {py : Pos} {elt tg iter : Expr} {ifs : List Expr} {scope : Scope} {own : List (Str × Nat)} {pos spos : Pos} {wi : TI} {g : TG} {tt : TT} {te : TE} (hc : X.calm = true) (hN : X.N.Nodup) (hsk : X.stack = X.env :: X.outer) (hfr : X.env.frame = some X.env.locals) (tk : L2N.Takes X (XF E))
    (hy : X.N[i]? = some y) (hyl : X.env.scope.names.lookup y = some .local) (hsw : swapsWith (.ListComp elt [⟨tg, iter, ifs, 0⟩] scope pos) (some (.Name y py)) spos.line X.env = pure true)
    (hi : PI X tg iter wi) (ok : BlkOk X.N X.env.scope scope own)
    (hg : ∀ (s : Shared) (H : Hp) (C : Addr) (cl : List (Str × Addr)) (fp : List Addr), PG (X.blk s H scope (compEnvC scope cl C X.env) fp) tg g)
    (ht : ∀ (s : Shared) (H : Hp) (C : Addr) (cl : List (Str × Addr)) (fp : List Addr), PTs (X.blk s H scope (compEnvC scope cl C X.env) fp) ifs tt)
    (he : ∀ (s : Shared) (H : Hp) (C : Addr) (cl : List (Str × Addr)) (fp : List Addr) (E' : Value → Shared → Prop), L2N.Takes (blkW X s H scope (compEnvC scope cl C X.env) fp E') (XF E) → PE (blkW X s H scope (compEnvC scope cl C X.env) fp E') elt te)
    (hs : ∀ x, foldedSetIterable iter X.env x = pure x := by intro _; rfl) : PS X (.Assign [.Name y py] (.ListComp elt [⟨tg, iter, ifs, 0⟩] scope pos) spos) (tAsg (tLc wi g tt te (own.map (·.2))) (gName i)) := by
  refine ⟨fun pins s σ H D I h => ?_⟩
  rw [exec_Assign_Name_used _ _ _ _ hsw]
  refine wpAny_bind (wpAny_standAt (wpAny_bind ?_))
  show wpAny _ X.A (do let _ ← comprehension (.ListComp elt [⟨tg, iter, ifs, 0⟩] scope pos) scope X.env (firstIterPos [⟨tg, iter, ifs, 0⟩] pos) (newList []) false (eval iter X.env) (some (assign (.Name y py) X.env))) _ _ s
  have h : tLc wi g tt te (own.map (·.2)) σ H (fun x H1 => gName i x σ H1 D.nx) := h
  refine wpAny_bind (thn (core (Qf := fun _ t => SP X pins D .next t) hc hN hsk hfr tk I hi ok hg ht he hs h fun L C s' m H' I' q hn f => ?_) fun _ t hq => wpAny_pure (wpAny_pure hq))
  show wpAny _ _ (assign (.Name y py) X.env (.ref L)) _ _ _
  refine wpAny_assign_Name (store_ok2 (v := V.ref L) I' hN hy (.inl hyl) rfl (fun t2 I2 ⟨a, sb, ha⟩ => ?_) (.inr hyl))
  obtain ⟨f0, f1, f2, f3, f4, f5⟩ := f
  have Ca : C ≠ a := by
    rcases ha with z | z
    · rw [z]; exact f1
    · exact fun e => f4 y a z e.symm
  refine ⟨m, hn.sameBut sb Ca, fun h3 sb3 => ?_⟩
  exact ⟨_, H', I2.turned (t' := t2.toks) (fun b o hb e => (sb3.2 b hb).trans e) f0 f1 f3 f4 f5, q⟩
end
end CompE
end
section
set_option Elab.async false
set_option linter.all false
set_option maxRecDepth 100000
set_option maxHeartbeats 2000000
/-! Mir14: a comprehension out of which an exception may come; sorted of ints. -/
namespace Mir
open PySem PySem.Spec PyProof.Rows L2
/-- behind an error the block's own slots are forgotten -/
def errW {α : Type} (vs : List Nat) (f : M α) : M α := fun ρ => match f ρ with
  | .err x ρ' => .err x (wipeD ρ' vs)
  | o => o
theorem errW_post {α : Type} {vs : List Nat} {f : M α} {K : α → Env → Prop} {KE : Exn → Env → Prop} {ρ : Env} : OPost K KE (errW vs f ρ) ↔ OPost K (fun x ρ' => KE x (wipeD ρ' vs)) (f ρ) := by
  unfold errW
  cases f ρ <;> exact Iff.rfl
def compX (vs : List Nat) (tg : D → M Unit) (tst : M Bool) (elt : M D) : List D → List D → M (List D)
  | [], acc => do
    wipeM vs
    pure acc
  | d :: ds, acc => do
    noX (tg d)
    let b ← noX tst
    if b = true then do
      let y ← errW vs elt
      if acc.length < sizeLine then do
        wipeM vs
        compX vs tg tst elt ds (acc ++ [y])
      else badM
    else do
      wipeM vs
      compX vs tg tst elt ds acc
section
variable {c : Cn} {E : XK}
abbrev EXc (E : XK) : XW := fun _ => E
theorem xturn {vs : List Nat} {W : List Nat} {g : TG} {tt : TT} {te : TE} {tg : D → M Unit} {tst : M Bool} {elt : M D} (hg : GOk c W g tg) (hw : ∀ i ∈ W, i ∈ vs) (ht : TtOk c EXF tt tst) (he : TOk c (EXc E) te elt)
    {H : Hp} {σ : St} {ρ : Env} {T U : List (V × D)} {v : V} {d : D} {ds acc : List D} {Da : Addr} {Nx Qd : Hp → Prop}
    (f : Fit c (wipe σ vs) ρ) (gd : Good c H [] ((v, d) :: ((.ref Da, .lst true acc) :: U ++ (T ++ sl (wipe σ vs) ρ))))
    (p : OPost (fun r ρ' => ∀ H', Fit c (wipe σ vs) ρ' → Good c H' [] ((.ref Da, .lst true r) :: (T ++ sl (wipe σ vs) ρ')) → Qd H') (XPost c (EXc E) T σ) (compX vs tg tst elt (d :: ds) acc ρ))
    (nx : ∀ H' ρ' acc', Fit c (wipe σ vs) ρ' → Good c H' [] ((.ref Da, .lst true acc') :: U ++ (T ++ sl (wipe σ vs) ρ')) →
      OPost (fun r ρ' => ∀ H', Fit c (wipe σ vs) ρ' → Good c H' [] ((.ref Da, .lst true r) :: (T ++ sl (wipe σ vs) ρ')) → Qd H') (XPost c (EXc E) T σ) (compX vs tg tst elt ds acc' ρ') → Nx H') :
    g v (wipe σ vs) H fun σ2 H2 => wipe σ2 vs = wipe σ vs ∧ tt σ2 H2 fun b H3 =>
      if b = true then te σ2 H3 fun y H4 => ∃ acc, H4 Da = some (.lst acc) ∧ acc.length < sizeLine ∧ Nx (upd H4 Da (.lst (acc ++ [y]))) else Nx H3 := by
  refine hg H (wipe σ vs) ρ ((.ref Da, .lst true acc) :: U ++ T) v d _ f (by rw [List.append_assoc]; exact gd) ((noX_post (bind_post.mp p)).imp (fun _ ρ1 p1 σ1 H1 a1 f1 g1 => ?_) fun _ _ z => z)
  have ew : wipe σ1 vs = wipe σ vs := by
    have e2 : wipe σ1 vs = wipe (wipe σ vs) vs := wipe_eq' a1.len fun i hi => a1.at' i fun z => hi (hw i z)
    rw [e2]
    exact wipe_eq' (wipe_length σ vs) fun i hi => wipe_out' hi
  refine ⟨ew, ht H1 σ1 ρ1 _ _ f1 g1 ((noX_post (bind_post.mp p1)).imp (fun b ρ2 p2 H2 f2 g2 => ?_) fun _ _ z => z.elim)⟩
  cases b with
  | true =>
    simp only [if_true] at p2 ⊢
    refine he H2 σ1 ρ2 _ _ f2 g2 ((errW_post.mp (bind_post.mp p2)).imp (fun y ρ3 p3 z H3 f3 g3 => ?_) fun x ρ3 q cls dd H3 f3 ea => ?_)
    · by_cases hz : acc.length < sizeLine
      · rw [if_pos hz] at p3
        have p4 := wipeM_post.mp (bind_post.mp p3)
        obtain ⟨q, ws, eq, hq, hl, g4⟩ := g3.push
        cases eq
        refine ⟨ws, hq, by omega, nx _ (wipeD ρ3 vs) (acc ++ [y]) ?_ ?_ p4⟩
        · rw [← ew]; exact f3.wipe
        · have g5 : Good c (upd H3 Da (.lst (ws ++ [z]))) [] ((.ref Da, .lst true (acc ++ [y])) :: (U ++ T ++ sl σ1 ρ3)) := g4
          refine g5.sub (List.Sublist.cons_cons _ ?_)
          show (U ++ (T ++ sl (wipe σ vs) (wipeD ρ3 vs))).Sublist _
          rw [← List.append_assoc, ← ew, sl_wipe]
          exact List.Sublist.append (.refl _) sl_wipe_sub
      · rw [if_neg hz] at p3
        exact p3.elim
    · have fw : Fit c (wipe σ vs) (wipeD ρ3 vs) := by rw [← ew]; exact f3.wipe
      refine q cls dd H3 fw.unwipe (ea.sub ?_)
      have s1 : (T ++ sl σ (wipeD ρ3 vs)) = (T ++ sl σ1 (wipeD ρ3 vs)) := by rw [← sl_wipe (σ := σ), ← ew, sl_wipe]
      rw [s1]
      refine List.Sublist.append ?_ sl_wipe_sub
      exact (List.sublist_append_right U T).trans (List.sublist_cons_self _ _)
  | false =>
    simp only [Bool.false_eq_true, if_false] at p2 ⊢
    have p3 := wipeM_post.mp (bind_post.mp p2)
    refine nx H2 (wipeD ρ2 vs) acc ?_ ?_ p3
    · rw [← ew]; exact f2.wipe
    · have g5 : Good c H2 [] ((.ref Da, .lst true acc) :: (U ++ T ++ sl σ1 ρ2)) := g2
      refine g5.sub (List.Sublist.cons_cons _ ?_)
      show (U ++ (T ++ sl (wipe σ vs) (wipeD ρ2 vs))).Sublist _
      rw [← List.append_assoc, ← ew, sl_wipe]
      exact List.Sublist.append (.refl _) sl_wipe_sub
theorem compX_dead {vs : List Nat} {tg : D → M Unit} {tst : M Bool} {elt : M D} {KE : Exn → Env → Prop} : ∀ {ds acc : List D} {ρ : Env} {K : List D → Env → Prop}, OPost K KE (compX vs tg tst elt ds acc ρ) →
    OPost (fun r ρ' => (∀ i ∈ vs, ρ'.set i none = ρ') ∧ K r ρ') KE (compX vs tg tst elt ds acc ρ)
  | [], acc, ρ, K, h => bind_post.mpr (wipeM_post.mpr ⟨fun i hi => wipeD_dead ρ vs i hi, wipeM_post.mp (bind_post.mp h)⟩)
  | d :: ds, acc, ρ, K, h => by
    refine bind_post.mpr ((bind_post.mp h).imp (fun _ ρ1 p1 => bind_post.mpr ((bind_post.mp p1).imp (fun b ρ2 p2 => ?_) fun _ _ z => z)) fun _ _ z => z)
    cases b with
    | true =>
      simp only [if_true] at p2 ⊢
      refine bind_post.mpr ((bind_post.mp p2).imp (fun y ρ3 p3 => ?_) fun _ _ z => z)
      by_cases hz : acc.length < sizeLine
      · rw [if_pos hz] at p3 ⊢
        exact bind_post.mpr (wipeM_post.mpr (compX_dead (wipeM_post.mp (bind_post.mp p3))))
      · rw [if_neg hz] at p3
        exact p3.elim
    | false =>
      simp only [Bool.false_eq_true, if_false] at p2 ⊢
      exact bind_post.mpr (wipeM_post.mpr (compX_dead (wipeM_post.mp (bind_post.mp p2))))
theorem xcomp_fin {vs : List Nat} {tg : D → M Unit} {tst : M Bool} {elt : M D} {ds : List D} {σ : St} {ρ : Env} {T : List (V × D)} {Da : Addr} {Q : VK} {KE : Exn → Env → Prop}
    (h : OPost (fun d ρ' => ∀ v H', Fit c σ ρ' → Good c H' [] ((v, d) :: (T ++ sl σ ρ')) → Q v H') KE ((do let r ← compX vs tg tst elt ds []; pure (.lst true r) : M D) ρ)) :
    OPost (fun r ρ' => ∀ H', Fit c (wipe σ vs) ρ' → Good c H' [] ((.ref Da, .lst true r) :: (T ++ sl (wipe σ vs) ρ')) → Q (.ref Da) H') KE (compX vs tg tst elt ds [] ρ) :=
  (compX_dead (bind_post.mp h)).imp (fun r ρ' ⟨dd, q⟩ H' fx gx => by
    rw [sl_wipe' dd] at gx
    refine q _ H' ⟨by rw [← fx.len, wipe_length], fun i d e => ?_, fun i e => ?_⟩ gx
    · obtain ⟨v, k⟩ := fx.has i d e
      exact ⟨v, (wipe_some k).1⟩
    · obtain ⟨a, e', k⟩ := fx.exn i e
      exact ⟨a, e', (wipe_some k).1⟩) fun _ _ z => z
theorem xcomp_out {vs : List Nat} {tg : D → M Unit} {tst : M Bool} {elt : M D} {σ : St} {ρ : Env} {T U : List (V × D)} {Da : Addr} {acc : List D} {H : Hp} {Qd : Hp → Prop} {KE : Exn → Env → Prop} (f : Fit c (wipe σ vs) ρ) (g : Good c H [] ((.ref Da, .lst true acc) :: U ++ (T ++ sl (wipe σ vs) ρ)))
    (p : OPost (fun r ρ' => ∀ H', Fit c (wipe σ vs) ρ' → Good c H' [] ((.ref Da, .lst true r) :: (T ++ sl (wipe σ vs) ρ')) → Qd H') KE (compX vs tg tst elt [] acc ρ)) : Qd H := by
  refine (wipeM_post.mp (bind_post.mp p)) H f.wipeD (g.sub (List.Sublist.cons_cons _ ?_))
  exact (List.Sublist.append (.refl T) sl_wipe_sub).trans (List.sublist_append_right U _)
/-- [e for t in xs], e may raise -/
def lcE (vs : List Nat) (f : M D) (tg : D → M Unit) (tst : M Bool) (elt : M D) : M D := do
  let d ← f
  match d with
  | .lst _ ds => (do
    wipeM vs
    let r ← compX vs tg tst elt (fzL ds) []
    pure (.lst true r))
  | _ => badM
theorem TOk.lcE {vs : List Nat} {W : List Nat} {t : TE} {g : TG} {tt : TT} {te : TE} {f : M D} {tg : D → M Unit} {tst : M Bool} {elt : M D} (hf : TOk c (EXc E) t f) (hg : GOk c W g tg) (ht : TtOk c EXF tt tst) (he : TOk c (EXc E) te elt) (hw : ∀ i ∈ W, i ∈ vs := by decide) :
    TOk c (EXc E) (tLc (iList c.K t) g tt te vs) (lcE vs f tg tst elt) := fun H σ ρ T Q ft gd p => by
  refine hf H σ ρ T _ ft gd ((bind_post.mp p).imp (fun d ρ1 q v H1 f1 g1 => ?_) fun _ _ q => q)
  cases d with
  | lst o ds =>
    have g2 := g1.freeze
    simp only [fz] at g2
    obtain ⟨a, ws, e, hr, hl, g3⟩ := g2.readL
    refine ⟨a, e, ⟨ws, .inl hr⟩, fun Da hD => ?_⟩
    have q3 := xcomp_fin (Da := Da) (wipeM_post.mp (bind_post.mp q))
    refine lc_list (K := c.K) (a := a) (xs := ws) (fun k H' => ∃ ρ' acc, Fit c (wipe σ vs) ρ' ∧ Good c H' [] ((.ref Da, .lst true acc) :: ((ws.drop k).zip ((fzL ds).drop k) ++ [(v, .seq ws)]) ++ (T ++ sl (wipe σ vs) ρ')) ∧
      OPost (fun r ρ' => ∀ H', Fit c (wipe σ vs) ρ' → Good c H' [] ((.ref Da, .lst true r) :: (T ++ sl (wipe σ vs) ρ')) → Q (.ref Da) H') (XPost c (EXc E) T σ) (compX vs tg tst elt ((fzL ds).drop k) acc ρ')) ⟨wipeD ρ1 vs, [], f1.wipe, ?_, q3⟩ (fun k H' _ h => ?_) (fun k x H' hx h => ?_) (fun H' h => ?_)
    · have g4 : Good c H1 [] (([] : List V).zip [] ++ ((ws.zip (fzL ds) ++ [(v, .seq ws)]) ++ (T ++ sl (wipe σ vs) (wipeD ρ1 vs)))) := by
        refine g3.sub ?_
        rw [sl_wipe]
        show ((ws.zip (fzL ds) ++ [(v, D.seq ws)]) ++ (T ++ sl σ (wipeD ρ1 vs))).Sublist _
        rw [List.append_assoc]
        refine List.Sublist.append (.refl _) ?_
        have s : (T ++ sl σ (wipeD ρ1 vs)).Sublist (T ++ sl σ ρ1) := List.Sublist.append (.refl T) sl_wipe_sub
        exact s.cons_cons _
      exact g4.newL rfl hD (by simp)
    · obtain ⟨ρ', acc, _, g, _⟩ := h
      have g5 : Good c H' [] ((v, .seq ws) :: (T ++ sl (wipe σ vs) ρ')) := by
        refine g.sub ?_
        show ((v, D.seq ws) :: (T ++ sl (wipe σ vs) ρ')).Sublist ((V.ref Da, D.lst true acc) :: (((ws.drop k).zip ((fzL ds).drop k) ++ [(v, D.seq ws)]) ++ (T ++ sl (wipe σ vs) ρ')))
        rw [List.append_assoc]
        exact (List.sublist_append_right _ _).trans (List.sublist_cons_self _ _)
      obtain ⟨a', e', s⟩ := g5.seqAt
      rw [e] at e'
      cases e'
      exact s
    · obtain ⟨ρ', acc, f', g', p'⟩ := h
      have hk : k < (fzL ds).length := by rw [← hl]; exact ltE hx
      have hd := List.getElem?_eq_getElem hk
      rw [drop_at hd] at p' g'
      rw [drop_at hx] at g'
      refine xturn (U := (ws.drop (k + 1)).zip ((fzL ds).drop (k + 1)) ++ [(v, .seq ws)]) (T := T) hg hw ht he f' ?_ p' fun H2 ρ2 acc2 f2 g2 p2 => ⟨ρ2, acc2, f2, g2, p2⟩
      exact g'.swap
    · obtain ⟨ρ', acc, f', g', p'⟩ := h
      rw [List.drop_eq_nil_of_le (by omega)] at p'
      exact xcomp_out f' g' p'
  | _ => exact q.elim
end
/-! ### sorted of ints -/
def srtI (ns : List Int) : List Int := ns.mergeSort (fun a b => decide (a ≤ b))
theorem srtI_perm (ns : List Int) : (srtI ns).Perm ns := List.mergeSort_perm ns _
theorem srtI_le (ns : List Int) : (srtI ns).Pairwise (· ≤ ·) := (List.pairwise_mergeSort (le := fun a b : Int => decide (a ≤ b)) (fun a b c h k => by simp only [decide_eq_true_eq] at *; omega) (fun a b => by simp only [Bool.or_eq_true, decide_eq_true_eq]; omega) ns).imp fun h => of_decide_eq_true h
theorem srtI_uniq {ns ns' : List Int} (p : ns'.Perm ns) (h : ns'.Pairwise (· ≤ ·)) : ns' = srtI ns :=
  List.Perm.eq_of_pairwise (le := (· ≤ ·)) (fun a b _ _ h1 h2 => Int.le_antisymm h1 h2) h (srtI_le ns) (p.trans (srtI_perm ns).symm)
def oSorted (a : D) : Option (D × D) := match a with
  | .lst _ xs => (match numsOf xs with
    | some ns => some (.lst true ((srtI ns).map .int), a)
    | none => none)
  | _ => none
theorem Good.addIs {c : Cn} {H : Hp} {R : List Addr} {L : List (V × D)} (g : Good c H R L) : ∀ ns : List Int, Good c H R ((ns.map V.int).zip (ns.map D.int) ++ L)
  | [] => g
  | n :: ns => (Good.addIs g ns).addI n
theorem g_sorted {c : Cn} : G1 c (r1 (rSortedI c.K)) oSorted := by
  intro H x a T Q d a' e gd k
  unfold oSorted at e
  split at e
  · rename_i o xs
    split at e
    · rename_i bs q
      cases e
      obtain ⟨Z2, p3, vs3, f3, ev3, hr3, hl3, r3⟩ := gd.lst
      have es := numsOf_ok r3 q
      subst es
      refine ⟨p3, bs, by rw [ev3], .inl hr3, fun ns p hp hs hn => ?_⟩
      rw [srtI_uniq hp hs]
      exact k _ _ ((gd.addIs (srtI bs)).newL (by rw [List.length_map, List.length_map]) hn (by simp))
    · cases e
  · cases e
end Mir
end
section
set_option Elab.async false
set_option linter.all false
set_option maxRecDepth 100000
set_option maxHeartbeats 4000000
/-! MirH: the head: what the top has written, told by one Bool and by the defs' texts. -/
namespace Mir
open PySem PySem.Spec PyProof.Rows L2
/-! ### an own error, as the text has it -/
def initSt : Stmt → Stmt
  | .ClassDef _ _ _ (f :: _) _ _ _ _ _ _ _ => f
  | s => s
structure ErrD where
  nm : Str
  fs : List Str
  st : Stmt
abbrev FnI : Type := Option (Str × Arguments × FuncBody × Scope × Addr × List Str × Addr)
def iAd (K : PySem.W.Frag) (nm : Str) : Addr := He.ma K (He.ga K nm) "__init__"
def fnI (K : PySem.W.Frag) (nm : Str) : FnI := match K.lookup (iAd K nm) with
  | some ⟨_, _, .func fd, _⟩ => some (fd.name, fd.params, fd.body, fd.scope, fd.globals, fd.closure.map (·.1), fd.builtins)
  | _ => none
def ErrD.val (e : ErrD) : FnI := some ("__init__", defArgs e.st, .stmts (defBody e.st), defScope e.st, mainGlobals, ["__class__"], builtinsNs)
def fileB (file : Str) : Option Value → Bool
  | some (.str f _) => file == f
  | _ => false
def objFile (file : Str) : Option Obj → Bool
  | some ⟨_, _, .fields vs, _⟩ => fileB file vs[2]?
  | _ => false
def cellB (C : Addr) : Option Obj → Bool
  | some ⟨_, _, .cell (some (.ref D)), _⟩ => D == C
  | _ => false
def codeB (file : Str) (K : PySem.W.Frag) (nm : Str) : Bool := match K.lookup (iAd K nm) with
  | some ⟨_, _, .func fd, _⟩ => (match fd.code, fd.closure with
    | .ref cda, [(_, cc)] => PySem.W.codeIn K (.ref cda) fd.qualname && (objFile file (K.lookup cda) && cellB (He.ga K nm) (K.lookup cc))
    | _, _ => false)
  | _ => false
def errL (K : PySem.W.Frag) (e : ErrD) : List Bool :=
  [PySem.W.excInitIn K (He.ga K e.nm) PySem.HandSPX.veTail "ValueError.__new__",
   ((PySem.W.clsIn K (He.ga K e.nm)).any fun cd => PySem.HandSPX.refsVE cd.mro && cd.hasDict),
   He.eqO (PySem.W.findIn K (.ref (He.ga K e.nm)) "__setattr__") (some (some (.builtin "object.__setattr__"))),
   He.eqO (PySem.W.findIn K (.ref (He.ga K e.nm)) "__getattribute__") (some (some (.builtin "BaseException.__getattribute__"))),
   He.eqO (PySem.W.findIn K (.ref (He.ga K e.nm)) "__getattr__") (some none),
   e.fs.all (fun f => He.eqO (PySem.W.findIn K (.ref (He.ga K e.nm)) f) (some none)),
   He.eqO (PySem.W.findIn K (.ref (He.ga K e.nm)) "__init__") (some (some (.ref (iAd K e.nm)))),
   decide (PySem.W.typeIn K (.ref (iAd K e.nm)) = some (.type "function")),
   PySem.W.keepIn K (.ref (He.ga K e.nm)),
   decide (PySem.W.subIn K (.ref (He.ga K e.nm)) (.type "BaseException") = some true),
   decide (PySem.W.subIn K (.ref (He.ga K e.nm)) (.type "ValueError") = some true),
   decide (PySem.W.typeIn K (.ref (He.ga K e.nm)) = some (.type "type")),
   PySem.W.hasDictIn K (He.ga K e.nm),
   decide (PySem.W.mroIn K (He.ga K e.nm) (.ref (He.ga K e.nm)) = some true),
   He.eqO (PySem.W.ks_superIn K (He.ga K e.nm) (He.ga K e.nm) "__init__") (some (some (.builtin MirE.veInit))),
   He.eqO (PySem.W.nsIn K cStatics "thirdparty.any") (some none),
   He.eqO (PySem.W.findIn K (.ref (He.ga K e.nm)) "__class__") (some (some (.builtin "object.__class__"))),
   He.eqO (PySem.W.specialIn K (.builtin "object.__class__") "__get__") (some (some (.builtin "getset_descriptor.__get__"))),
   decide (PySem.W.takesIn K (.builtin "object.__class__") = some true),
   decide (PySem.W.mroIn K (He.ga K e.nm) (.type "object") = some true)]
def errB (K : PySem.W.Frag) (e : ErrD) : Bool := (errL K e).all id
section
variable {P : Program} {K : PySem.W.Frag} {mg : Str → Option Value} {e : ErrD} {cat : Bool} {msg : Str}
/-- the statements of such an __init__ -/
structure IsErr (e : ErrD) (cat : Bool) (msg : Str) : Prop where
  par : ∃ ar, ((defArgs e.st).posonlyargs ++ (defArgs e.st).args).head? = some ar ∧ ar.arg = "self"
  bnd : ∀ (qual : Str) (dV kV doc pm ct : Value) (an : Option Addr) (cda cc : Addr) (s : Shared) (us : List Value), us.length = e.fs.length + 1 → dV = .none →
    BindsTo s (PySem.W.ksFn "__init__" qual (defArgs e.st) (defBody e.st) (defScope e.st) dV kV doc pm an (.ref cda) ct cc) ⟨us, []⟩ ((("self" : Str) :: e.fs).zip us)
  s1 : (defScope e.st).names.lookup ("super" : Str) = some .globalImplicit
  s2 : (defScope e.st).names.lookup ("__class__" : Str) = some .free
  s3 : ∀ y ∈ ("self" : Str) :: e.fs, (defScope e.st).names.lookup y = some .local ∧ (y == ("__debug__" : Str)) = false
  s4 : (defScope e.st).kind = .function
  s5 : ∀ y ∈ (defScope e.st).names, y.2 ≠ .cell
  s6 : (defScope e.st).isCoroutine = false
  s7 : (defScope e.st).isGenerator = false
  nd : (("self" : Str) :: e.fs).Nodup
  bod : ∃ me p1 p2 p3 p4 p5, MirE.MsgAt me msg (e.fs.headD "") cat ∧ ((p3 : Pos).endLine == (p4 : Pos).line) = true ∧
      ((∃ f1 q1 q2 q3 q4, e.fs = [f1] ∧ defBody e.st = [MirE.sup me p1 p2 p3 p4 p5, MirE.sto f1 q1 q2 q3 q4]) ∨ ∃ f1 q1 q2 q3 q4 f2 r1 r2 r3 r4, e.fs = [f1, f2] ∧ defBody e.st = [MirE.sup me p1 p2 p3 p4 p5, MirE.sto f1 q1 q2 q3 q4, MirE.sto f2 r1 r2 r3 r4])
def isNoneV : Value → Bool
  | .none => true
  | _ => false
def dflNone (K : PySem.W.Frag) (nm : Str) : Bool := match K.lookup (iAd K nm) with
  | some ⟨_, _, .func fd, _⟩ => isNoneV fd.defaults
  | _ => false
theorem excC_of (h : errB K e = true) : ExcC K (He.ga K e.nm) ∧ XfC K (He.ga K e.nm) ∧ ∀ f ∈ e.fs, PySem.W.findIn K (.ref (He.ga K e.nm)) f = some none := by
  unfold errB errL at h
  simp only [List.all_cons, List.all_nil, Bool.and_eq_true, id, and_true] at h
  obtain ⟨h0, h1, h2, h3, h4, h5, h6, h7, h8, h9, h10, h11, h12, h13, h14, h15, h16, h17, h18, h19⟩ := h
  exact ⟨⟨He.eqO_ok h3, He.eqO_ok h4, of_decide_eq_true h9, h12, He.eqO_ok h16, He.eqO_ok h17, of_decide_eq_true h18, of_decide_eq_true h19⟩,
    ⟨He.eqO_ok h3, He.eqO_ok h4, of_decide_eq_true h9, h12⟩, fun f hf => He.eqO_ok (List.all_eq_true.mp h5 f hf)⟩
theorem errTxt_of (h : errB K e = true) (hc : codeB P.main.file K e.nm = true) (hd : dflNone K e.nm = true) (hv : fnI K e.nm = e.val) (S : IsErr e cat msg) (hg : mg e.nm = some (.ref (He.ga K e.nm))) (hs : mg "super" = none) (ht : (P.main.scope.names.lookup ("super" : Str)).isSome = false) :
    MirE.ErrTxt P K mg e.nm e.fs cat msg (He.ga K e.nm) (iAd K e.nm) := by
  unfold errB errL at h
  simp only [List.all_cons, List.all_nil, Bool.and_eq_true, id, and_true] at h
  obtain ⟨h0, h1, h2, h3, h4, h5, h6, h7, h8, h9, h10, h11, h12, h13, h14, h15, h16, h17, h18, h19⟩ := h
  refine ⟨hg, hs, ht, h0, ?_, He.eqO_ok h2, He.eqO_ok h3, He.eqO_ok h4, fun f hf => He.eqO_ok (List.all_eq_true.mp h5 f hf), He.eqO_ok h6, of_decide_eq_true h7, h8, of_decide_eq_true h9, of_decide_eq_true h10, of_decide_eq_true h11, h12, of_decide_eq_true h13, He.eqO_ok h14, He.eqO_ok h15, ?_⟩
  · cases q : PySem.W.clsIn K (He.ga K e.nm) with
    | none => rw [q] at h1; cases h1
    | some cd =>
      rw [q] at h1
      obtain ⟨a, b⟩ := Bool.and_eq_true_iff.mp h1
      exact ⟨cd, rfl, a, b⟩
  · unfold fnI at hv
    unfold codeB at hc
    unfold dflNone at hd
    cases q : K.lookup (iAd K e.nm) with
    | none => rw [q] at hc; cases hc
    | some o =>
      obtain ⟨oc, od, dt, osl⟩ := o
      rw [q] at hc hv hd
      cases dt with
      | func fd =>
        obtain ⟨n1, n2, n3, n4, n5, n6, n7, n8, n9, n10, n11, n12, n13, n14, n15⟩ := fd
        have e2 : (some (n1, n3, n4, n5, n6, n7.map (·.1), n15) : FnI) = some (("__init__" : Str), defArgs e.st, FuncBody.stmts (defBody e.st), defScope e.st, mainGlobals, [("__class__" : Str)], builtinsNs) := hv
        simp only [Option.some.injEq, Prod.mk.injEq] at e2
        obtain ⟨g1, g2, g3, g4, g5, g6, g7⟩ := e2
        subst g1 g2 g3 g4 g5 g7
        have hd' : isNoneV n8 = true := hd
        have e8 : n8 = .none := by cases n8 <;> first | rfl | cases hd'
        subst e8
        cases n13 with
        | ref cda =>
          match n7, g6 with
          | [(y, cc)], g6 =>
            have ey : y = "__class__" := by simpa using g6
            subst ey
            have hc' : (PySem.W.codeIn K (.ref cda) n2 && (objFile P.main.file (K.lookup cda) && cellB (He.ga K e.nm) (K.lookup cc))) = true := hc
            obtain ⟨k1, k2⟩ := Bool.and_eq_true_iff.mp hc'
            obtain ⟨k3, k4⟩ := Bool.and_eq_true_iff.mp k2
            cases q2 : K.lookup cda with
            | none => rw [q2] at k3; cases k3
            | some o2 =>
              obtain ⟨ccl, cdd, cdt, ccs⟩ := o2
              rw [q2] at k3
              cases cdt with
              | fields vs =>
                have k3 : fileB P.main.file vs[2]? = true := k3
                cases q3 : vs[2]? with
                | none => rw [q3] at k3; cases k3
                | some f =>
                  rw [q3] at k3
                  cases f with
                  | str file tf =>
                    cases q4 : K.lookup cc with
                    | none => rw [q4] at k4; cases k4
                    | some o3 =>
                      obtain ⟨cl, cld, ct2, csl⟩ := o3
                      rw [q4] at k4
                      cases ct2 with
                      | cell v =>
                        cases v with
                        | none => cases k4
                        | some v =>
                          cases v with
                          | ref D =>
                            have eD : D = He.ga K e.nm := by simpa [cellB] using k4
                            subst eD
                            obtain ⟨ar, a1, a2⟩ := S.par
                            exact ⟨n2, _, _, _, .none, n9, n10, n11, n14, oc, ccl, cl, n12, od, cdd, cld, osl, ccs, csl, cda, cc, vs, file, tf, ar, rfl, k1, q2, q3, k3, q4, a1, a2, fun s us hl => S.bnd _ _ _ _ _ _ _ _ _ s us hl rfl, S.s1, S.s2, S.s3, S.s4, S.s5, S.s6, S.s7, S.nd, S.bod⟩
                          | _ => cases k4
                      | _ => cases k4
                  | _ => cases k3
              | _ => cases k3
          | [], g6 => simp at g6
          | _ :: _ :: _, g6 => simp at g6
        | _ => cases hc
      | _ => cases hc
end
/-! ### where errors' classes stand -/
def clsE (et : ETab) (K : PySem.W.Frag) (nm : Str) : Option Addr := if (et.any fun p => p.1 == nm) = true then some (He.ga K nm) else none
theorem clsE_eq {et : ETab} {K : PySem.W.Frag} {nm : Str} {A : Addr} (h : clsE et K nm = some A) : A = He.ga K nm ∧ (et.any fun p => p.1 == nm) = true := by
  unfold clsE at h
  by_cases q : (et.any fun p => p.1 == nm) = true
  · rw [if_pos q] at h
    exact ⟨(Option.some.inj h).symm, q⟩
  · rw [if_neg q] at h
    cases h
def kitB (et : ETab) (K : PySem.W.Frag) (C : Str) (f : Str → Bool) : Bool := et.all fun p => decide (PySem.W.kitOne K (.ref (He.ga K p.1)) (.ref (He.ga K C)) = some (f p.1))
theorem kitB_ok {et : ETab} {K : PySem.W.Frag} {C : Str} {f : Str → Bool} (h : kitB et K C f = true) : ∀ p ∈ et, ∀ A, clsE et K p.1 = some A → PySem.W.kitOne K (.ref A) (.ref (He.ga K C)) = some (f p.1) := fun p hp A e => by
  rw [(clsE_eq e).1]
  exact of_decide_eq_true (List.all_eq_true.mp h p hp)
def exmB (et : ETab) (K : PySem.W.Frag) (C : Str) (f : Str → Bool) : Bool := et.all fun p => decide (PySem.W.exmOne K (.ref (He.ga K p.1)) (.ref (He.ga K C)) = some (f p.1))
theorem exmB_ok {et : ETab} {K : PySem.W.Frag} {C : Str} {f : Str → Bool} (h : exmB et K C f = true) : ∀ nm A b, clsE et K nm = some A → (if (et.any fun p => p.1 == nm) = true then some (f nm) else none) = some b → PySem.W.exmOne K (.ref A) (.ref (He.ga K C)) = some b := fun nm A b e q => by
  obtain ⟨e1, e2⟩ := clsE_eq e
  rw [if_pos e2] at q
  cases q
  obtain ⟨p, hp, ep⟩ := List.any_eq_true.mp e2
  have ep' : p.1 = nm := by simpa using ep
  rw [e1, ← ep']
  exact of_decide_eq_true (List.all_eq_true.mp h p hp)
theorem etxt_of {et : ETab} {K : PySem.W.Frag} {es : List ErrD} (he : et = es.map fun e => (e.nm, e.fs)) (h : ∀ e ∈ es, errB K e = true) : ETxt K (clsE et K) et := ⟨fun p hp A e => by
  subst he
  rw [(clsE_eq e).1]
  obtain ⟨d, hd, ed⟩ := List.mem_map.mp hp
  subst ed
  exact excC_of (h d hd)⟩
/-! ### the Hook -/
def asM (g : Addr → Option Obj) : Nat → List Addr
  | 0 => [mainGlobals, cStatics]
  | n + 1 => He.growD g (asM g n)
abbrev AlM : Type := He.AlD × Bool × List FnI
def obsM (fa : List He.Fa) (fn : List He.DefD) (ex : PySem.W.Frag → Bool) (es : List ErrD) (K : PySem.W.Frag) : AlM := (He.obsD fa fn K, (ex K && es.all fun e => errB K e), es.map fun e => fnI K e.nm)
def valM (fn : List He.DefD) (es : List ErrD) : AlM := (He.valD fn, true, es.map ErrD.val)
def SaysM (fa : List He.Fa) (fn : List He.DefD) (ex : PySem.W.Frag → Bool) (es : List ErrD) (K : PySem.W.Frag) : Prop := obsM fa fn ex es K = valM fn es
def obsMG (n : Nat) (fa : List He.Fa) (fn : List He.DefD) (ex : PySem.W.Frag → Bool) (es : List ErrD) (g : Addr → Option Obj) : AlM := obsM fa fn ex es (He.frG g (asM g n))
def hookM (n : Nat) (fa : List He.Fa) (fn : List He.DefD) (ex : PySem.W.Frag → Bool) (es : List ErrD) : PySem.W.Hook where
  α := AlM
  obs := fun s => obsMG n fa fn ex es s.heap.get?
  val := fun _ => valM fn es
  says := fun _ h => ∃ K : PySem.W.Frag, K.In h ∧ SaysM fa fn ex es K
  of := fun _ _ e => ⟨_, He.frG_in, e⟩
  keeps := fun _ _ _ ⟨K, hK, c⟩ k => ⟨K, PySem.W.Frag.In.keeps hK k, c⟩
theorem obsMG_eq {n : Nat} {fa : List He.Fa} {fn : List He.DefD} {ex : PySem.W.Frag → Bool} {es : List ErrD} {g : Addr → Option Obj} {s : Shared} (h : ∀ a, g a = s.heap.get? a) : obsMG n fa fn ex es g = (hookM n fa fn ex es).obs s := by
  have e : g = s.heap.get? := funext h
  rw [e] <;> rfl
section
variable {fa : List He.Fa} {fn : List He.DefD} {ex : PySem.W.Frag → Bool} {es : List ErrD} {K : PySem.W.Frag}
theorem SaysM.d (c : SaysM fa fn ex es K) : He.SaysD fa fn K := congrArg (fun z : AlM => z.1) c
theorem SaysM.b (c : SaysM fa fn ex es K) : ex K = true ∧ ∀ e ∈ es, errB K e = true := by
  have q : (ex K && es.all fun e => errB K e) = true := congrArg (fun z : AlM => z.2.1) c
  obtain ⟨a, b⟩ := Bool.and_eq_true_iff.mp q
  exact ⟨a, fun e he => List.all_eq_true.mp b e he⟩
theorem SaysM.i (c : SaysM fa fn ex es K) : ∀ e ∈ es, fnI K e.nm = e.val := fun e he => by
  have q : (es.map fun e => fnI K e.nm) = es.map ErrD.val := congrArg (fun z : AlM => z.2.2) c
  obtain ⟨i, hi, rfl⟩ := List.mem_iff_getElem.mp he
  have q2 : (es.map fun e => fnI K e.nm)[i]? = (es.map ErrD.val)[i]? := by rw [q]
  rw [List.getElem?_map, List.getElem?_map, List.getElem?_eq_getElem hi] at q2
  exact Option.some.inj q2
end
/-! ### a def of the text -/
def defD (x : Str) (st : Stmt) : He.DefD := ⟨(x, none), x, x, defArgs st, defBody st, defScope st, [], []⟩
theorem lk_of {K : PySem.W.Frag} {mg : Str → Option Value} {x : Str} {st : Stmt} {ps : List Str} (F : ∃ fd, FunD K x x (defArgs st) (defBody st) (defScope st) [] [] (He.ga K x) fd) (hg : mg x = some (.ref (He.ga K x)))
    (h : ∀ (kV doc pm : Value) (an : Option Addr) (cdv ct : Value) (us : List Value), us.length = ps.length → bindArgs (PySem.W.fnOf x x (defArgs st) (defBody st) (defScope st) .none kV doc pm an cdv ct) ⟨us, []⟩ = pure (ps.zip us)) : Lk K mg x st ps := by
  obtain ⟨fd, F⟩ := F
  obtain ⟨oc, od, dV, kV, doc, pm, an, cdv, ct, osl, rfl, lk, hcd, hD, hK⟩ := F.ex
  have e : dV = .none := by
    rcases hD with ⟨_, e⟩ | ⟨e, _⟩
    · exact e
    · exact absurd rfl e
  subst e
  exact ⟨He.ga K x, _, ⟨⟨oc, od, kV, doc, pm, an, cdv, ct, osl, rfl, lk, hcd⟩, F.kp⟩, .all (h kV doc pm an cdv ct), hg⟩
/-! ### the end -/
/-- what lets nothing out but what E takes, whatever the world -/
def CXW (P : Program) : CXT := fun outer H s E e s' => ∃ w, L2N.CX P w outer H s E e s'
theorem fn_cx {P : Program} {w : World} {K : PySem.W.Frag} {mg : Str → Option Value} {base : Heap} {k : Nat} {f : Addr} {fd : FuncData} {ps : List Str} {sp : Sp} (F : FnOk P w K mg base (L2N.CX P w) k f fd ps sp) : FnOk P w K mg base (CXW P) k f fd ps sp :=
  ⟨F.len, fun A outer s H args us vs Q E hr e0 hb r h => codeAny_mono (F.run A outer s H args us vs Q E hr e0 hb r h) fun rr s' z => by
    cases rr with
    | error e => exact ⟨w, z⟩
    | ok fl => cases fl <;> exact z⟩
theorem fun_eq {K : PySem.W.Frag} {x : Str} {st st' : Stmt} {f : Addr} {fd fd' : FuncData} (F : Fun K x x st f fd) (F' : Fun K x x st' f fd') : fd = fd' := by
  obtain ⟨oc, od, kV, doc, pm, an, cdv, ct, osl, e1, lk, _⟩ := F.ex
  obtain ⟨oc', od', kV', doc', pm', an', cdv', ct', osl', e2, lk', _⟩ := F'.ex
  rw [lk] at lk'
  injection lk' with h
  injection h with h1 h2 h3 h4
  injection h3
/-- what walk_ofE asks, from a law's def -/
theorem law_end {P : Program} {K : PySem.W.Frag} {mg : Str → Option Value} {fa : Addr} {x : Str} {k : Nat} {c : Cn} {m : List D → FRes} {h : Heap} (KX : K.In h) (hfa : mg x = some (.ref fa)) (hc : c.K = K) (hkp : c.kp = []) {st : Stmt} (L : Lk K mg x st ["script"])
    (hbind : ∀ (kV doc pm : Value) (an : Option Addr) (cdv ct : Value) (us : List Value), us.length = 1 → bindArgs (PySem.W.fnOf x x (defArgs st) (defBody st) (defScope st) .none kV doc pm an cdv ct) ⟨us, []⟩ = pure (((["script"] : List Str)).zip us))
    {w : World} (ok : ∀ base : Heap, DefAt P w K mg base k x ["script"] (spF c [false] m)) {n : Nat} (hm : ∀ ns : List Int, ns.length ≤ n → ∃ outs, m [.seq (ns.map V.int)] = .ok (.bl true) outs) :
    ∃ (K : PySem.W.Frag) (fd : FuncData) (sp : Sp), K.In h ∧ (∀ (s : Shared) (u : Value), BindsTo s fd ⟨[u], []⟩ [("script", u)]) ∧
        (∀ (H : Hp) (a : Addr) (ns : List Int), ns.length ≤ n → Only H → SqL K H a (ns.map V.int) → sp [.ref a] H (fun v _ => v = .bl true) fun _ _ _ => False) ∧
        ∀ base : Heap, K.In base → base.Ns mainGlobals mg → FnOk P w K mg base (CXW P) k fa fd ["script"] sp := by
  obtain ⟨f, fd, F, b, hg⟩ := L.ex
  rw [hfa] at hg
  cases hg
  refine ⟨K, fd, spF c [false] m, KX, fun s u => ?_, fun H a ns hl hO hS => ?_, fun base _ _ => ?_⟩
  · obtain ⟨oc, od, kV, doc, pm, an, cdv, ct, osl, rfl, lk, hcd⟩ := F.ex
    exact BindsTo.of_eq (hbind kV doc pm an cdv ct [u] rfl)
  · obtain ⟨outs, e⟩ := hm ns hl
    refine ⟨[.seq (ns.map V.int)], [], rfl, rfl, ?_, ?_⟩
    · have key : ∃ Z : Addr → Prop, (Z a ∨ ∀ H', SqL K H' a (ns.map V.int)) ∧ ∀ b, Z b → ∃ o, H b = some o := by
        rcases hS with hS | hS
        · refine ⟨fun b => b = a, .inl rfl, fun b e => ?_⟩
          subst e
          rcases hS with hS | ⟨o, hS⟩
          · exact ⟨_, hS⟩
          · exact ⟨_, hS⟩
        · exact ⟨fun _ => False, .inr fun H' => .inr hS, fun _ z => z.elim⟩
      obtain ⟨Z, z1, z2⟩ := key
      refine ⟨Z, [], ⟨[], [], ?_, rfl, rfl⟩, by simp, fun b hb => by simp at hb, ⟨z2, fun p hp => by rw [hkp] at hp; cases hp⟩⟩
      show Rep c.toCb Z H (.seq (ns.map V.int)) (.ref a) []
      simp only [Rep]
      exact ⟨a, rfl, by rw [hc]; exact hS, by rw [hc]; exact z1, trivial⟩
    · rw [e]
      exact fun v H' g => g.isB
  · obtain ⟨f', fd', m', _, _, F', st', Fu⟩ := (ok base).ex
    rw [hfa] at m'
    cases m'
    have e := fun_eq F Fu
    subst e
    exact fn_cx F'
theorem cxw_no {P : Program} (H : Hp) (s : Shared) (e : Value) (s' : Shared) : CXW P [] H s (fun _ _ _ => False) e s' → False := fun h => by
  obtain ⟨w, _, _, _, _, _, _, _, _, _, _, _, _, z⟩ := h
  exact z
end Mir
end
section
set_option Elab.async false
set_option linter.all false
set_option maxRecDepth 100000
set_option maxHeartbeats 4000000
/-! MirM: mirrors reckoned. -/
namespace Mir
open PySem PySem.Spec PyProof.Rows L2
def Out.bnd {α β : Type} (o : Out α) (k : α → Env → Out β) : Out β := match o with
  | .ok a ρ => k a ρ
  | .err x ρ => .err x ρ
  | .bad => .bad
section
variable {α β : Type} {a : α} {ρ : Env} {x : Exn} {k : α → Env → Out β}
@[simp] theorem bnd_ok : (Out.ok a ρ).bnd k = k a ρ := rfl
@[simp] theorem bnd_err : (Out.err x ρ : Out α).bnd k = .err x ρ := rfl
@[simp] theorem bnd_bad : (Out.bad : Out α).bnd k = .bad := rfl
theorem bnd_congr {o : Out α} {k k' : α → Env → Out β} (h : ∀ a ρ, k a ρ = k' a ρ) : o.bnd k = o.bnd k' := by
  have e : k = k' := funext fun a => funext fun ρ => h a ρ
  rw [e]
@[simp] theorem bind_app {f : M α} {g : α → M β} : (f >>= g) ρ = (f ρ).bnd fun a ρ' => g a ρ' := by
  show M.bind f g ρ = _
  unfold M.bind
  cases f ρ <;> rfl
@[simp] theorem pure_app : (pure a : M α) ρ = .ok a ρ := rfl
@[simp] theorem badM_app : (badM : M α) ρ = .bad := rfl
@[simp] theorem optM_some : optM (some a) ρ = .ok a ρ := rfl
@[simp] theorem optM_none : optM (none : Option α) ρ = .bad := rfl
@[simp] theorem setv_app {i : Nat} {d : Option D} : setv i d ρ = .ok () (ρ.set i d) := rfl
theorem peek_app {i : Nat} {d : D} (h : ρ[i]? = some (some d)) : peek i ρ = .ok d ρ := by unfold peek; rw [h]
theorem setq_app {i : Nat} {d : D} (h : isx d = false) : setq i d ρ = .ok () (ρ.set i (some d)) := by unfold setq; rw [if_neg (by rw [h]; decide)]
theorem stv_app {i : Nat} {d : D} (hi : i < ρ.length) (h : isx d = false) : stv i d ρ = .ok () (ρ.set i (some d)) := by unfold stv; rw [if_pos hi, if_neg (by rw [h]; decide)]
theorem rdv_app {i : Nat} {d : D} (h : ρ[i]? = some (some d)) : rdv i ρ = .ok (fz d) (ρ.set i (some (fz d))) := by
  unfold rdv
  rw [bind_app, peek_app h]
  rfl
theorem mvv_app {i : Nat} {d : D} (h : ρ[i]? = some (some d)) : mvv i ρ = .ok d (ρ.set i none) := by
  unfold mvv
  rw [bind_app, peek_app h]
  rfl
theorem noX_ok {f : M α} {ρ' : Env} (h : f ρ = .ok a ρ') : noX f ρ = .ok a ρ' := by unfold noX; rw [h]
theorem noX_app {f : M α} : noX f ρ = (match f ρ with | .err _ _ => .bad | o => o) := rfl
@[simp] theorem seqM_app {f g : M Flw} : seqM f g ρ = (f ρ).bnd fun fl ρ1 => match fl with | .nx => g ρ1 | x => .ok x ρ1 := by
  unfold seqM
  rw [bind_app]
  refine bnd_congr fun fl ρ1 => ?_
  cases fl <;> rfl
@[simp] theorem ifM_app {t : M Bool} {f g : M Flw} : ifM t f g ρ = (t ρ).bnd fun b ρ1 => if b = true then f ρ1 else g ρ1 := by
  unfold ifM
  rw [bind_app]
  refine bnd_congr fun b ρ1 => ?_
  cases b <;> rfl
@[simp] theorem ifV_app {t : M Bool} {f g : M D} : ifV t f g ρ = (t ρ).bnd fun b ρ1 => if b = true then f ρ1 else g ρ1 := by
  unfold ifV
  rw [bind_app]
  refine bnd_congr fun b ρ1 => ?_
  cases b <;> rfl
@[simp] theorem andT_app {f g : M Bool} : andT f g ρ = (f ρ).bnd fun b ρ1 => if b = true then g ρ1 else .ok false ρ1 := by
  unfold andT
  rw [bind_app]
  refine bnd_congr fun b ρ1 => ?_
  cases b <;> rfl
@[simp] theorem orT_app {f g : M Bool} : orT f g ρ = (f ρ).bnd fun b ρ1 => if b = true then .ok true ρ1 else g ρ1 := by
  unfold orT
  rw [bind_app]
  refine bnd_congr fun b ρ1 => ?_
  cases b <;> rfl
@[simp] theorem notT_app {f : M Bool} : notT f ρ = (f ρ).bnd fun b ρ1 => .ok (!b) ρ1 := by unfold notT; rw [bind_app]; rfl
@[simp] theorem asB_app {f : M D} : asB f ρ = (f ρ).bnd fun d ρ1 => match d with | .bl b => .ok b ρ1 | _ => .bad := by
  unfold asB
  rw [bind_app]
  refine bnd_congr fun d ρ1 => ?_
  cases d <;> rfl
@[simp] theorem andV_app {f g : M D} : andV f g ρ = (asB f ρ).bnd fun b ρ1 => if b = true then g ρ1 else .ok (.bl false) ρ1 := by
  unfold andV
  rw [bind_app]
  refine bnd_congr fun b ρ1 => ?_
  cases b <;> rfl
@[simp] theorem retM_app {f : M D} : retM f ρ = (f ρ).bnd fun d ρ1 => .ok (.rt d) ρ1 := by unfold retM; rw [bind_app]; rfl
@[simp] theorem dropM_app {f : M D} : dropM f ρ = (f ρ).bnd fun _ ρ1 => .ok .nx ρ1 := by unfold dropM; rw [bind_app]; rfl
@[simp] theorem asgM_app {f : M D} {h : D → M Unit} : asgM f h ρ = (f ρ).bnd fun d ρ1 => (noX (h d) ρ1).bnd fun _ ρ2 => .ok .nx ρ2 := by
  unfold asgM
  rw [bind_app]
  refine bnd_congr fun d ρ1 => ?_
  rw [bind_app]
  rfl
@[simp] theorem ev1_tmp {f : M D} {g : D → Option (D × D)} : ev1 (.tmp f) g ρ = (f ρ).bnd fun a ρ1 => match g a with | some p => .ok p.1 ρ1 | none => .bad := by
  show (f >>= _) ρ = _
  rw [bind_app]
  refine bnd_congr fun a ρ1 => ?_
  rw [bind_app]
  cases g a <;> rfl
theorem ev1_slot {i : Nat} {a d a' : D} {g : D → Option (D × D)} (h : ρ[i]? = some (some a)) (e : g a = some (d, a')) (hx : isx a' = false) : ev1 (.slot i) g ρ = .ok d (ρ.set i (some a')) := by
  show (peek i >>= _) ρ = _
  rw [bind_app, peek_app h, bnd_ok, bind_app, e, optM_some, bnd_ok, bind_app, setq_app hx]
  rfl
@[simp] theorem ev2_tt {f h : M D} {g : D → D → Option (D × D × D)} : ev2 (.tmp f) (.tmp h) g ρ = (f ρ).bnd fun a ρ1 => (h ρ1).bnd fun b ρ2 => match g a b with | some p => .ok p.1 ρ2 | none => .bad := by
  show (f >>= _) ρ = _
  rw [bind_app]
  refine bnd_congr fun a ρ1 => ?_
  rw [bind_app]
  refine bnd_congr fun b ρ2 => ?_
  rw [bind_app]
  cases g a b <;> rfl
theorem ev2_st {i : Nat} {a0 : D} {h : M D} {g : D → D → Option (D × D × D)} (h0 : ρ[i]? = some (some a0)) : ev2 (.slot i) (.tmp h) g ρ = (h ρ).bnd fun b ρ1 => (peek i ρ1).bnd fun a ρ2 => match g a b with | some p => (setq i p.2.1 ρ2).bnd fun _ ρ3 => .ok p.1 ρ3 | none => .bad := by
  show (peek i >>= _) ρ = _
  rw [bind_app, peek_app h0, bnd_ok, bind_app]
  refine bnd_congr fun b ρ1 => ?_
  rw [bind_app]
  refine bnd_congr fun a ρ2 => ?_
  rw [bind_app]
  cases g a b with
  | none => rfl
  | some p => rw [optM_some, bnd_ok, bind_app]; rfl
@[simp] theorem ev2_ts {j : Nat} {f : M D} {g : D → D → Option (D × D × D)} : ev2 (.tmp f) (.slot j) g ρ = (f ρ).bnd fun a ρ1 => (peek j ρ1).bnd fun b ρ2 => match g a b with | some p => (setq j p.2.2 ρ2).bnd fun _ ρ3 => .ok p.1 ρ3 | none => .bad := by
  show (f >>= _) ρ = _
  rw [bind_app]
  refine bnd_congr fun a ρ1 => ?_
  rw [bind_app]
  refine bnd_congr fun b ρ2 => ?_
  rw [bind_app]
  cases g a b with
  | none => rfl
  | some p => rw [optM_some, bnd_ok, bind_app]; rfl
theorem ev2_ss {i j : Nat} {a b : D} {g : D → D → Option (D × D × D)} {p : D × D × D} (hij : i ≠ j) (ha : ρ[i]? = some (some a)) (hb : ρ[j]? = some (some b)) (e : g a b = some p) (h1 : isx p.2.1 = false) (h2 : isx p.2.2 = false) : ev2 (.slot i) (.slot j) g ρ = .ok p.1 ((ρ.set i (some p.2.1)).set j (some p.2.2)) := by
  show (peek i >>= _) ρ = _
  rw [bind_app, peek_app ha, bnd_ok, bind_app, peek_app hb, bnd_ok, if_neg hij, bind_app, e, optM_some, bnd_ok, bind_app, setq_app h1, bnd_ok, bind_app, setq_app h2]
  rfl
@[simp] theorem evT_tmp {f : M D} : evT (.tmp f) ρ = (f ρ).bnd fun a ρ1 => match tru a with | some b => .ok b ρ1 | none => .bad := by
  show (f >>= _) ρ = _
  rw [bind_app]
  refine bnd_congr fun a ρ1 => ?_
  cases tru a <;> rfl
theorem evT_slot {i : Nat} {a : D} {b : Bool} (h : ρ[i]? = some (some a)) (e : tru a = some b) : evT (.slot i) ρ = .ok b ρ := by
  show (peek i >>= _) ρ = _
  rw [bind_app, peek_app h, bnd_ok, e]
  rfl
@[simp] theorem consM_app {f : M D} {g : M (List D)} : consM f g ρ = (f ρ).bnd fun d ρ1 => (g ρ1).bnd fun ds ρ2 => .ok (d :: ds) ρ2 := by
  unfold consM
  rw [bind_app]
  refine bnd_congr fun d ρ1 => ?_
  rw [bind_app]
  rfl
@[simp] theorem lstM_app {f : M (List D)} : lstM f ρ = (f ρ).bnd fun ds ρ1 => if ds.length ≤ sizeLine then .ok (.lst true ds) ρ1 else .bad := by
  unfold lstM
  rw [bind_app]
  refine bnd_congr fun ds ρ1 => ?_
  split <;> rfl
@[simp] theorem tupM_app {f : M (List D)} : tupM f ρ = (f ρ).bnd fun ds ρ1 => if ds.length ≤ sizeLine then .ok (.tup ds) ρ1 else .bad := by
  unfold tupM
  rw [bind_app]
  refine bnd_congr fun ds ρ1 => ?_
  split <;> rfl
@[simp] theorem setIx_app {i : Nat} {f h : M D} : setIx i f h ρ = (f ρ).bnd fun d ρ1 => (peek i ρ1).bnd fun _ ρ2 => (h ρ2).bnd fun b ρ3 => (peek i ρ3).bnd fun a ρ4 => match a, b with
    | .lst true xs, .int n => (match ixN xs.length n with
      | some k => .ok .nx (ρ4.set i (some (.lst true (xs.set k d))))
      | none => .bad)
    | _, _ => .bad := by
  unfold setIx
  rw [bind_app]
  refine bnd_congr fun d ρ1 => ?_
  rw [bind_app]
  refine bnd_congr fun _ ρ2 => ?_
  rw [bind_app]
  refine bnd_congr fun b ρ3 => ?_
  rw [bind_app]
  refine bnd_congr fun a ρ4 => ?_
  cases a with
  | lst o xs =>
    cases o with
    | true =>
      cases b with
      | int n =>
        cases q : ixN xs.length n <;> simp only [q] <;> rfl
      | _ => rfl
    | false => cases b <;> rfl
  | _ => cases b <;> rfl
@[simp] theorem parM_app {i j : Nat} {f : M (List D)} : parM i j f ρ = (f ρ).bnd fun ds ρ1 => match ds with
    | [a, b] => (noX (stv i a) ρ1).bnd fun _ ρ2 => (noX (stv j b) ρ2).bnd fun _ ρ3 => .ok .nx ρ3
    | _ => .bad := by
  unfold parM
  rw [bind_app]
  refine bnd_congr fun ds ρ1 => ?_
  match ds with
  | [a, b] =>
    show (noX (stv i a) >>= fun _ => (noX (stv j b) >>= fun _ => (pure Flw.nx : M Flw))) ρ1 = _
    rw [bind_app]
    refine bnd_congr fun _ ρ2 => ?_
    rw [bind_app]
    rfl
  | [] => rfl
  | [_] => rfl
  | _ :: _ :: _ :: _ => rfl
@[simp] theorem loopM_nil {tg : D → M Unit} {body : M Flw} : loopM tg body [] ρ = .ok .nx ρ := rfl
@[simp] theorem loopM_cons {tg : D → M Unit} {body : M Flw} {d : D} {ds : List D} : loopM tg body (d :: ds) ρ = (noX (tg d) ρ).bnd fun _ ρ1 => (body ρ1).bnd fun fl ρ2 => match fl with
    | .nx => loopM tg body ds ρ2
    | .ct => loopM tg body ds ρ2
    | .bk => .ok .nx ρ2
    | .rt x => .ok (.rt x) ρ2 := by
  rw [loopM, bind_app]
  refine bnd_congr fun _ ρ1 => ?_
  rw [bind_app]
  refine bnd_congr fun fl ρ2 => ?_
  cases fl <;> rfl
@[simp] theorem forL_app {f : M D} {tg : D → M Unit} {body : M Flw} : forL f tg body ρ = (f ρ).bnd fun d ρ1 => match d with
    | .lst _ ds => loopM tg body (fzL ds) ρ1
    | _ => .bad := by
  unfold forL
  rw [bind_app]
  refine bnd_congr fun d ρ1 => ?_
  cases d <;> rfl
@[simp] theorem forS_app {f : M D} {tg : D → M Unit} {body : M Flw} : forS f tg body ρ = (f ρ).bnd fun d ρ1 => match d with
    | .str z => loopM tg body (signsD z) ρ1
    | _ => .bad := by
  unfold forS
  rw [bind_app]
  refine bnd_congr fun d ρ1 => ?_
  cases d <;> rfl
@[simp] theorem forB_app {i : Nat} {tg : D → M Unit} {body : M Flw} : forB i tg body ρ = (peek i ρ).bnd fun a ρ0 => match a with
    | .lst o ds => (loopM tg body (fzL ds) (ρ0.set i none)).bnd fun fl ρ1 => (match fl with
      | .nx => .ok .nx (ρ1.set i (some (.lst o (fzL ds))))
      | x => .ok x ρ1)
    | _ => .bad := by
  unfold forB
  rw [bind_app]
  refine bnd_congr fun a ρ0 => ?_
  cases a with
  | lst o ds =>
    show (setv i none >>= fun _ => _) ρ0 = _
    rw [bind_app, setv_app, bnd_ok, bind_app]
    refine bnd_congr fun fl ρ1 => ?_
    cases fl <;> rfl
  | _ => rfl
@[simp] theorem callM_app {f : List D → FRes} {as : List Opn} : callM f as ρ = (evArgs as ρ).bnd fun os ρ1 => (lendOut as os ρ1).bnd fun ds ρ2 => match f ds with
    | .ok d outs => (noX (lendIn as outs) ρ2).bnd fun _ ρ3 => .ok d ρ3
    | .err x => .err x ρ2
    | .bad => .bad := by
  unfold callM
  rw [bind_app]
  refine bnd_congr fun os ρ1 => ?_
  rw [bind_app]
  refine bnd_congr fun ds ρ2 => ?_
  cases f ds with
  | ok d outs => simp only []; rw [bind_app]; rfl
  | err x => rfl
  | bad => rfl
@[simp] theorem evArgs_nil : evArgs [] ρ = .ok [] ρ := rfl
@[simp] theorem evArgs_tmp {f : M D} {as : List Opn} : evArgs (.tmp f :: as) ρ = (f ρ).bnd fun d ρ1 => (evArgs as ρ1).bnd fun r ρ2 => .ok (some d :: r) ρ2 := by
  rw [evArgs, bind_app]
  refine bnd_congr fun d ρ1 => ?_
  rw [bind_app]
  rfl
@[simp] theorem evArgs_slot {i : Nat} {as : List Opn} : evArgs (.slot i :: as) ρ = (peek i ρ).bnd fun _ ρ1 => (evArgs as ρ1).bnd fun r ρ2 => .ok (none :: r) ρ2 := by
  rw [evArgs, bind_app]
  refine bnd_congr fun d ρ1 => ?_
  rw [bind_app]
  rfl
@[simp] theorem lendOut_nil : lendOut [] [] ρ = .ok [] ρ := rfl
@[simp] theorem lendOut_tmp {f : M D} {as : List Opn} {d : D} {os : List (Option D)} : lendOut (.tmp f :: as) (some d :: os) ρ = (lendOut as os ρ).bnd fun r ρ1 => .ok (d :: r) ρ1 := by
  rw [lendOut, bind_app]
  rfl
@[simp] theorem lendOut_slot {i : Nat} {as : List Opn} {os : List (Option D)} : lendOut (.slot i :: as) (none :: os) ρ = (peek i ρ).bnd fun d ρ1 => (lendOut as os (ρ1.set i none)).bnd fun r ρ2 => .ok (d :: r) ρ2 := by
  rw [lendOut, bind_app]
  refine bnd_congr fun d ρ1 => ?_
  rw [bind_app, setv_app, bnd_ok, bind_app]
  rfl
@[simp] theorem lendIn_nil {ds : List D} : lendIn [] ds ρ = .ok () ρ := by cases ds <;> rfl
@[simp] theorem lendIn_tmp {f : M D} {as : List Opn} {d : D} {ds : List D} : lendIn (.tmp f :: as) (d :: ds) ρ = lendIn as ds ρ := rfl
@[simp] theorem lendIn_slot {i : Nat} {as : List Opn} {d : D} {ds : List D} : lendIn (.slot i :: as) (d :: ds) ρ = (stv i d ρ).bnd fun _ ρ1 => lendIn as ds ρ1 := by
  rw [lendIn, bind_app]
theorem evM1_ft {f h : M D} {g : D → D → Option (D × D × D)} {x : Str} {ρ1 : Env} (e : f ρ = .ok (.str x) ρ1) : evM1 f (.tmp h) g ρ = (h ρ1).bnd fun b ρ2 => match g (.str x) b with | some p => .ok p.1 ρ2 | none => .bad := by
  show (f >>= _) ρ = _
  rw [bind_app, e, bnd_ok]
  show (h >>= _) ρ1 = _
  rw [bind_app]
  refine bnd_congr fun b ρ2 => ?_
  rw [bind_app]
  cases g (.str x) b <;> rfl
theorem evM1_fs {f : M D} {j : Nat} {g : D → D → Option (D × D × D)} {x : Str} {b d a' b' : D} {ρ1 : Env} (e : f ρ = .ok (.str x) ρ1) (hb : ρ1[j]? = some (some b)) (eg : g (.str x) b = some (d, a', b')) (hx : isx b' = false) : evM1 f (.slot j) g ρ = .ok d (ρ1.set j (some b')) := by
  show (f >>= _) ρ = _
  rw [bind_app, e, bnd_ok]
  show (peek j >>= _) ρ1 = _
  rw [bind_app, peek_app hb, bnd_ok, bind_app, eg, optM_some, bnd_ok, bind_app, setq_app hx]
  rfl
@[simp] theorem peek_def {i : Nat} : peek i ρ = (match ρ[i]? with | some (some d) => .ok d ρ | _ => .bad) := rfl
@[simp] theorem rdv_def {i : Nat} : rdv i ρ = (peek i ρ).bnd fun d ρ1 => .ok (fz d) (ρ1.set i (some (fz d))) := by
  unfold rdv
  rw [bind_app]
  rfl
@[simp] theorem mvv_def {i : Nat} : mvv i ρ = (peek i ρ).bnd fun d ρ1 => .ok d (ρ1.set i none) := by
  unfold mvv
  rw [bind_app]
  rfl
@[simp] theorem stv_def {i : Nat} {d : D} : stv i d ρ = if i < ρ.length then (if isx d = true then .bad else .ok () (ρ.set i (some d))) else .bad := rfl
@[simp] theorem setq_def {i : Nat} {d : D} : setq i d ρ = if isx d = true then .bad else .ok () (ρ.set i (some d)) := rfl
@[simp] theorem ev1_def {i : Nat} {g : D → Option (D × D)} : ev1 (.slot i) g ρ = (peek i ρ).bnd fun a ρ1 => match g a with | some p => (setq i p.2 ρ1).bnd fun _ ρ2 => .ok p.1 ρ2 | none => .bad := by
  show (peek i >>= _) ρ = _
  rw [bind_app]
  refine bnd_congr fun a ρ1 => ?_
  rw [bind_app]
  cases g a with
  | none => rfl
  | some p => rw [optM_some, bnd_ok, bind_app]; rfl
@[simp] theorem ev2_st_def {i : Nat} {h : M D} {g : D → D → Option (D × D × D)} : ev2 (.slot i) (.tmp h) g ρ = (peek i ρ).bnd fun _ ρ0 => (h ρ0).bnd fun b ρ1 => (peek i ρ1).bnd fun a ρ2 => match g a b with | some p => (setq i p.2.1 ρ2).bnd fun _ ρ3 => .ok p.1 ρ3 | none => .bad := by
  show (peek i >>= _) ρ = _
  rw [bind_app]
  refine bnd_congr fun a0 ρ0 => ?_
  rw [bind_app]
  refine bnd_congr fun b ρ1 => ?_
  rw [bind_app]
  refine bnd_congr fun a ρ2 => ?_
  rw [bind_app]
  cases g a b with
  | none => rfl
  | some p => rw [optM_some, bnd_ok, bind_app]; rfl
@[simp] theorem ev2_ss_def {i j : Nat} {g : D → D → Option (D × D × D)} : ev2 (.slot i) (.slot j) g ρ = (peek i ρ).bnd fun a ρ1 => (peek j ρ1).bnd fun b ρ2 => if i = j then .bad else match g a b with | some p => (setq i p.2.1 ρ2).bnd fun _ ρ3 => (setq j p.2.2 ρ3).bnd fun _ ρ4 => .ok p.1 ρ4 | none => .bad := by
  show (peek i >>= _) ρ = _
  rw [bind_app]
  refine bnd_congr fun a ρ1 => ?_
  rw [bind_app]
  refine bnd_congr fun b ρ2 => ?_
  by_cases h : i = j
  · rw [if_pos h, if_pos h]; rfl
  · rw [if_neg h, if_neg h, bind_app]
    cases g a b with
    | none => rfl
    | some p =>
      rw [optM_some, bnd_ok, bind_app]
      refine bnd_congr fun _ ρ3 => ?_
      rw [bind_app]
      rfl
@[simp] theorem evT_def {i : Nat} : evT (.slot i) ρ = (peek i ρ).bnd fun a ρ1 => match tru a with | some b => .ok b ρ1 | none => .bad := by
  show (peek i >>= _) ρ = _
  rw [bind_app]
  refine bnd_congr fun a ρ1 => ?_
  cases tru a <;> rfl
@[simp] theorem appM_app {i : Nat} {f : M D} : appM i f ρ = (peek i ρ).bnd fun a0 ρ0 => match a0 with
    | .lst _ _ => (f ρ0).bnd fun d ρ1 => (peek i ρ1).bnd fun a ρ2 => (match a with
      | .lst true xs => if xs.length < sizeLine then .ok .non (ρ2.set i (some (.lst true (xs ++ [d])))) else .bad
      | _ => .bad)
    | _ => .bad := by
  unfold appM
  rw [bind_app]
  refine bnd_congr fun a0 ρ0 => ?_
  cases a0 with
  | lst o xs0 =>
    show (f >>= _) ρ0 = _
    rw [bind_app]
    refine bnd_congr fun d ρ1 => ?_
    rw [bind_app]
    refine bnd_congr fun a ρ2 => ?_
    cases a with
    | lst o xs =>
      cases o with
      | true => by_cases z : xs.length < sizeLine <;> simp [z] <;> rfl
      | false => rfl
    | _ => rfl
  | _ => rfl
end
end Mir
namespace Mir
open PySem PySem.Spec PyProof.Rows L2
section
variable {i j : Int} {x y : Str} {b b' : Bool} {xs ys : List D} {o : Bool} {d : D} {ds : List D}
@[simp] theorem isx_int : isx (.int i) = false := rfl
@[simp] theorem isx_str : isx (.str x) = false := rfl
@[simp] theorem isx_bl : isx (.bl b) = false := rfl
@[simp] theorem isx_non : isx .non = false := rfl
@[simp] theorem isx_lst : isx (.lst o xs) = false := rfl
@[simp] theorem isx_tup : isx (.tup xs) = false := rfl
@[simp] theorem isx_seq {vs : List V} : isx (.seq vs) = false := rfl
@[simp] theorem isx_exn : isx .exn = true := rfl
@[simp] theorem fz_int : fz (.int i) = .int i := rfl
@[simp] theorem fz_str : fz (.str x) = .str x := rfl
@[simp] theorem fz_bl : fz (.bl b) = .bl b := rfl
@[simp] theorem fz_non : fz .non = .non := rfl
@[simp] theorem fz_lst : fz (.lst o xs) = .lst false (fzL xs) := rfl
@[simp] theorem fz_tup : fz (.tup xs) = .tup (fzL xs) := rfl
@[simp] theorem fz_seq {vs : List V} : fz (.seq vs) = .seq vs := rfl
@[simp] theorem fz_exn : fz .exn = .exn := rfl
@[simp] theorem fzL_nil : fzL [] = [] := rfl
@[simp] theorem fzL_cons : fzL (d :: ds) = fz d :: fzL ds := rfl
@[simp] theorem oLe_ii : oLe (.int i) (.int j) = some (.bl (decide (i ≤ j)), .int i, .int j) := rfl
@[simp] theorem oLt_ii : oLt (.int i) (.int j) = some (.bl (decide (i < j)), .int i, .int j) := rfl
@[simp] theorem oGt_ii : oGt (.int i) (.int j) = some (.bl (decide (j < i)), .int i, .int j) := rfl
@[simp] theorem oGe_ii : oGe (.int i) (.int j) = some (.bl (decide (j ≤ i)), .int i, .int j) := rfl
@[simp] theorem oAdd_ii : oAdd (.int i) (.int j) = some (.int (i + j), .int i, .int j) := rfl
@[simp] theorem oSub_ii : oSub (.int i) (.int j) = some (.int (i - j), .int i, .int j) := rfl
@[simp] theorem oPlus_ii : oPlus (.int i) (.int j) = some (.int (i + j), .int i, .int j) := rfl
theorem oMul_ii (h : mulB i j = true) : oMul (.int i) (.int j) = some (.int (i * j), .int i, .int j) := by unfold oMul iop; simp [h]
theorem oMod_ii (h : 0 < j) : oMod (.int i) (.int j) = some (.int (i % j), .int i, .int j) := by unfold oMod iop modB; simp [h]
theorem oDiv_ii (h : 0 < j) (h2 : j.natAbs.log2 < 9000) : oDiv (.int i) (.int j) = some (.int (i / j), .int i, .int j) := by unfold oDiv iop divB; simp [h, h2]
theorem oPlus_ss (h : x.length + y.length ≤ sizeLine) : oPlus (.str x) (.str y) = some (.str (x ++ y), .str x, .str y) := by
  unfold oPlus oAdd oCatS
  simp [iop, h]
theorem shp_i : SeqAt.shaped (PyData.int i) = true := rfl
def cpOk (x : Str) : Bool := x.cps.all (· < 0x110000)
theorem shp_s (h : cpOk x = true) : SeqAt.shaped (PyData.str x) = true := by
  unfold SeqAt.shaped
  rw [Bool.and_eq_true]
  exact ⟨h, rfl⟩
@[simp] theorem oEq_ii : oEq (.int i) (.int j) = some (.bl (decide (i = j)), .int i, .int j) := by
  unfold oEq deq
  simp [toP, PyData.eqv, shp_i]
  try (by_cases h : i = j <;> simp [h, shp_i])
theorem oEq_ss (hx : cpOk x = true) (hy : cpOk y = true) : oEq (.str x) (.str y) = some (.bl (decide (x = y)), .str x, .str y) := by
  unfold oEq deq
  simp [toP, PyData.eqv, shp_s hx, shp_s hy]
  try (by_cases h : x = y <;> simp [h, shp_s hx, shp_s hy])
@[simp] theorem oEq_bb : oEq (.bl b) (.bl b') = some (.bl (decide (b = b')), .bl b, .bl b') := by
  unfold oEq deq
  cases b <;> cases b' <;> rfl
@[simp] theorem oNe_bb : oNe (.bl b) (.bl b') = some (.bl (!decide (b = b')), .bl b, .bl b') := by
  unfold oNe deq
  cases b <;> cases b' <;> rfl
theorem oNe_ss (hx : cpOk x = true) (hy : cpOk y = true) : oNe (.str x) (.str y) = some (.bl (!decide (x = y)), .str x, .str y) := by
  unfold oNe deq
  simp [toP, PyData.eqv, shp_s hx, shp_s hy]
  try (by_cases h : x = y <;> simp [h, shp_s hx, shp_s hy])
@[simp] theorem oInt_i : oInt (.int i) = some (.int i, .int i) := rfl
@[simp] theorem oLen_l : oLen (.lst o xs) = some (.int (xs.length : Nat), .lst o xs) := rfl
@[simp] theorem oLen_t : oLen (.tup xs) = some (.int (xs.length : Nat), .tup xs) := rfl
@[simp] theorem oLen_q {vs : List V} : oLen (.seq vs) = some (.int (vs.length : Nat), .seq vs) := rfl
@[simp] theorem oNeg_i : oNeg (.int i) = some (.int (-i), .int i) := rfl
@[simp] theorem tru_bl : tru (.bl b) = some b := rfl
@[simp] theorem tru_int : tru (.int i) = some (i != 0) := rfl
@[simp] theorem oIs_lst : oIs (.lst o xs) .non = some (.bl false, .lst o xs, .non) := rfl
@[simp] theorem oIs_tup : oIs (.tup xs) .non = some (.bl false, .tup xs, .non) := rfl
@[simp] theorem oIs_non : oIs .non .non = some (.bl true, .non, .non) := rfl
@[simp] theorem oIs_str : oIs (.str x) .non = some (.bl false, .str x, .non) := rfl
@[simp] theorem oIs_int : oIs (.int i) .non = some (.bl false, .int i, .non) := rfl
@[simp] theorem oIsN_lst : oIsNot (.lst o xs) .non = some (.bl true, .lst o xs, .non) := rfl
@[simp] theorem oIsN_tup : oIsNot (.tup xs) .non = some (.bl true, .tup xs, .non) := rfl
@[simp] theorem oIsN_non : oIsNot .non .non = some (.bl false, .non, .non) := rfl
theorem oIx_l {k : Nat} (h : ixN xs.length i = some k) (hd : xs[k]? = some d) : oIx (.lst o xs) (.int i) = some (fz d, .lst o (xs.set k (fz d)), .int i) := by unfold oIx; simp [h, hd]
theorem oIx_t {k : Nat} (h : ixN xs.length i = some k) (hd : xs[k]? = some d) : oIx (.tup xs) (.int i) = some (fz d, .tup (xs.set k (fz d)), .int i) := by unfold oIx; simp [h, hd]
end
end Mir
namespace Mir
open PySem PySem.Spec PyProof.Rows L2
section
variable {ρ : Env}
@[simp] theorem lcL_app {vs : List Nat} {f : M D} {tg : D → M Unit} {tst : M Bool} {elt : M D} : lcL vs f tg tst elt ρ = (f ρ).bnd fun d ρ1 => match d with
    | .lst _ ds => (noX (compM vs tg tst elt (fzL ds) []) (wipeD ρ1 vs)).bnd fun r ρ2 => .ok (.lst true r) ρ2
    | _ => .bad := by
  unfold lcL
  rw [bind_app]
  refine bnd_congr fun d ρ1 => ?_
  cases d with
  | lst o ds =>
    show (wipeM vs >>= fun _ => _) ρ1 = _
    rw [bind_app]
    show (noX (compM vs tg tst elt (fzL ds) []) >>= fun r => _) (wipeD ρ1 vs) = _
    rw [bind_app]
    rfl
  | _ => rfl
@[simp] theorem lcB_app {vs : List Nat} {i : Nat} {tg : D → M Unit} {tst : M Bool} {elt : M D} : lcB vs i tg tst elt ρ = (peek i ρ).bnd fun d ρ1 => match d with
    | .lst o ds => (noX (compM vs tg tst elt (fzL ds) []) (wipeD (ρ1.set i none) vs)).bnd fun r ρ2 => .ok (.lst true r) (ρ2.set i (some (.lst o (fzL ds))))
    | _ => .bad := by
  unfold lcB
  rw [bind_app]
  refine bnd_congr fun d ρ1 => ?_
  cases d with
  | lst o ds =>
    show (setv i none >>= fun _ => _) ρ1 = _
    rw [bind_app]
    show (wipeM vs >>= fun _ => _) (ρ1.set i none) = _
    rw [bind_app]
    show (noX (compM vs tg tst elt (fzL ds) []) >>= fun r => _) (wipeD (ρ1.set i none) vs) = _
    rw [bind_app]
    rfl
  | _ => rfl
@[simp] theorem lcR_app {vs : List Nat} {lo : Int} {n : Nat} {tg : D → M Unit} {tst : M Bool} {elt : M D} : lcR vs lo n tg tst elt ρ = (noX (compM vs tg tst elt (rangeD lo n) []) (wipeD ρ vs)).bnd fun r ρ2 => .ok (.lst true r) ρ2 := by
  unfold lcR
  rw [bind_app]
  show (noX (compM vs tg tst elt (rangeD lo n) []) >>= fun r => _) (wipeD ρ vs) = _
  rw [bind_app]
  rfl
@[simp] theorem lcR1_app {vs : List Nat} {f : M (List D)} {tg : D → M Unit} {tst : M Bool} {elt : M D} : lcR1 vs f tg tst elt ρ = (f ρ).bnd fun ds ρ1 => match ds with
    | [.int j] => if inR j = true then lcR vs 0 j.toNat tg tst elt ρ1 else .bad
    | _ => .bad := by
  unfold lcR1
  rw [bind_app]
  refine bnd_congr fun ds ρ1 => ?_
  split
  · rename_i j
    by_cases h : inR j = true
    · simp only [h, if_true]
    · simp only [h, if_false]
      rfl
  · rename_i h
    first
    | rfl
    | (split
       · rename_i j
         exact absurd rfl (h j)
       · rfl)
inductive All2 {α β : Type} (P : α → β → Prop) : List α → List β → Prop
  | nil : All2 P [] []
  | cons {a : α} {b : β} {as : List α} {bs : List β} : P a b → All2 P as bs → All2 P (a :: as) (b :: bs)
/-- a comprehension that keeps I: a thing for each -/
theorem compM_run {vs : List Nat} {tg : D → M Unit} {elt : M D} {I : Env → Prop} {P : D → D → Prop} (hw : ∀ ρ, I ρ → wipeD ρ vs = ρ) :
    ∀ (ds acc : List D) (ρ : Env), (∀ d ∈ ds, ∀ ρ, I ρ → ∃ ρ1 y ρ2, tg d ρ = .ok () ρ1 ∧ elt ρ1 = .ok y ρ2 ∧ P d y ∧ I (wipeD ρ2 vs)) → I ρ → acc.length + ds.length ≤ sizeLine →
      ∃ ys ρ', noX (compM vs tg (pure true) elt ds acc) ρ = .ok (acc ++ ys) ρ' ∧ I ρ' ∧ All2 P ds ys
  | [], acc, ρ, h, hI, hl => by
    refine ⟨[], ρ, ?_, hI, .nil⟩
    rw [noX_app, compM, bind_app]
    show (match (pure acc : M (List D)) (wipeD ρ vs) with | .err _ _ => Out.bad | o => o) = _
    rw [hw ρ hI, List.append_nil]
    rfl
  | d :: ds, acc, ρ, h, hI, hl => by
    obtain ⟨ρ1, y, ρ2, e1, e2, hP, hI2⟩ := h d List.mem_cons_self ρ hI
    have hl' : acc.length + (ds.length + 1) ≤ sizeLine := hl
    obtain ⟨ys, ρ', e3, hI3, hF⟩ := compM_run hw ds (acc ++ [y]) (wipeD ρ2 vs) (fun d' hd' => h d' (List.mem_cons_of_mem _ hd')) hI2 (by rw [List.length_append, List.length_singleton]; omega)
    refine ⟨y :: ys, ρ', ?_, hI3, .cons hP hF⟩
    rw [noX_app] at e3 ⊢
    rw [compM, bind_app, noX_ok e1, bnd_ok, bind_app, noX_ok (f := (pure true : M Bool)) (a := true) (ρ' := ρ1) rfl, bnd_ok, if_pos rfl, bind_app, noX_ok e2, bnd_ok, if_pos (by omega), bind_app]
    have ew : wipeM vs ρ2 = .ok () (wipeD ρ2 vs) := rfl
    rw [ew, bnd_ok, e3, List.append_assoc]
    rfl
theorem rangeD_len {lo : Int} {n : Nat} : (rangeD lo n).length = n := by unfold rangeD; simp
theorem forall2_len {P : D → D → Prop} {xs ys : List D} (h : All2 P xs ys) : xs.length = ys.length := by
  induction h with
  | nil => rfl
  | cons _ _ ih => rw [List.length_cons, List.length_cons, ih]
theorem forall2_right {P : D → Prop} {xs ys : List D} (h : All2 (fun _ y => P y) xs ys) : ∀ y ∈ ys, P y := by
  induction h with
  | nil => intro y hy; cases hy
  | cons hp _ ih =>
    intro y hy
    rcases List.mem_cons.mp hy with e | e
    · rw [e]; exact hp
    · exact ih y e
end
end Mir
namespace Mir
open PySem PySem.Spec PyProof.Rows L2
section
variable {ρ : Env}
@[simp] theorem noX_stv {i : Nat} {d : D} : noX (stv i d) ρ = stv i d ρ := by
  rw [noX_app]
  unfold stv
  split
  · rename_i h
    split at h
    · split at h <;> cases h
    · cases h
  · rfl
theorem noErr {α : Type} {f : M α} (h : ∀ x r, f ρ ≠ .err x r) : noX f ρ = f ρ := by
  rw [noX_app]
  split
  · rename_i x r e
    exact absurd e (h x r)
  · rfl
@[simp] theorem noX_lend {as : List Opn} : ∀ {ds : List D}, noX (lendIn as ds) ρ = lendIn as ds ρ := by
  intro ds
  apply noErr
  induction as generalizing ds ρ with
  | nil => intro x r; rw [lendIn_nil]; intro z; cases z
  | cons o as ih =>
    intro x r
    cases o with
    | tmp f =>
      cases ds with
      | nil => intro z; cases z
      | cons d ds => rw [lendIn_tmp]; exact ih x r
    | slot i =>
      cases ds with
      | nil => intro z; cases z
      | cons d ds =>
        rw [lendIn_slot]
        unfold stv
        split
        · split
          · intro z; cases z
          · exact ih x r
        · intro z; cases z
@[simp] theorem evM1_pt {h : M D} {g : D → D → Option (D × D × D)} {x : Str} : evM1 (pure (.str x)) (.tmp h) g ρ = (h ρ).bnd fun b ρ2 => match g (.str x) b with | some p => .ok p.1 ρ2 | none => .bad := evM1_ft (f := pure (.str x)) (ρ1 := ρ) rfl
@[simp] theorem evM1_def {f h : M D} {g : D → D → Option (D × D × D)} : evM1 f (.tmp h) g ρ = (f ρ).bnd fun a ρ1 => match a with
    | .str x => (h ρ1).bnd fun b ρ2 => (match g (.str x) b with | some p => .ok p.1 ρ2 | none => .bad)
    | _ => .bad := by
  show (f >>= _) ρ = _
  rw [bind_app]
  refine bnd_congr fun a ρ1 => ?_
  cases a with
  | str x =>
    show (h >>= _) ρ1 = _
    rw [bind_app]
    refine bnd_congr fun b ρ2 => ?_
    rw [bind_app]
    cases g (.str x) b <;> rfl
  | _ => rfl
@[simp] theorem evM1_sdef {f : M D} {j : Nat} {g : D → D → Option (D × D × D)} : evM1 f (.slot j) g ρ = (f ρ).bnd fun a ρ1 => match a with
    | .str x => (peek j ρ1).bnd fun b ρ2 => (match g (.str x) b with | some p => (setq j p.2.2 ρ2).bnd fun _ ρ3 => .ok p.1 ρ3 | none => .bad)
    | _ => .bad := by
  show (f >>= _) ρ = _
  rw [bind_app]
  refine bnd_congr fun a ρ1 => ?_
  cases a with
  | str x =>
    show (peek j >>= _) ρ1 = _
    rw [bind_app]
    refine bnd_congr fun b ρ2 => ?_
    rw [bind_app]
    cases g (.str x) b with
    | none => rfl
    | some p => rw [optM_some, bnd_ok, bind_app]; rfl
  | _ => rfl
end
end Mir
namespace Mir
open PySem PySem.Spec PyProof.Rows L2
theorem seq_step {f g : M Flw} {ρ ρ1 : Env} {o : Out Flw} (h : f ρ = .ok .nx ρ1) (k : g ρ1 = o) : seqM f g ρ = o := by
  rw [seqM_app, h]
  exact k
theorem seq_ret {f g : M Flw} {ρ ρ1 : Env} {d : D} (h : f ρ = .ok (.rt d) ρ1) : seqM f g ρ = .ok (.rt d) ρ1 := by
  rw [seqM_app, h]
  rfl
theorem seq_err {f g : M Flw} {ρ ρ1 : Env} {x : Exn} (h : f ρ = .err x ρ1) : seqM f g ρ = .err x ρ1 := by
  rw [seqM_app, h]
  rfl
theorem def_rt {m : Nat} {ln : List Bool} {g : M Flw} {ds outs : List D} {d : D} {ρ' : Env} (h : g (Mir.envOf m ds) = .ok (.rt d) ρ') (ho : outsOf ln ρ' = some outs) (hl : ln.length = ds.length) (hx : (ds.any isx) = false) : defF m ln g ds = .ok d outs := by
  unfold defF
  rw [if_pos ⟨hl, hx⟩, h]
  simp only [finF, ho]
theorem def_err {m : Nat} {ln : List Bool} {g : M Flw} {ds : List D} {x : Exn} {ρ' : Env} (h : g (Mir.envOf m ds) = .err x ρ') (hl : ln.length = ds.length) (hx : (ds.any isx) = false) : defF m ln g ds = .err x := by
  unfold defF
  rw [if_pos ⟨hl, hx⟩, h]
  rfl
end Mir
namespace Mir
open PySem PySem.Spec PyProof.Rows L2
section
variable {ρ : Env}
@[simp] theorem evPo_none : evPo none ρ = .ok none ρ := rfl
@[simp] theorem evPo_some {f : M D} : evPo (some f) ρ = (f ρ).bnd fun d ρ1 => match d with | .int i => .ok (some i) ρ1 | _ => .bad := by
  show (f >>= _) ρ = _
  rw [bind_app]
  refine bnd_congr fun d ρ1 => ?_
  cases d <;> rfl
@[simp] theorem evS_slot {i : Nat} {lo hi : Option (M D)} {g : D → Option Int → Option Int → Option (D × D)} : evS (.slot i) lo hi g ρ = (peek i ρ).bnd fun _ ρ0 => (evPo lo ρ0).bnd fun l ρ1 => (evPo hi ρ1).bnd fun u ρ2 => (peek i ρ2).bnd fun a ρ3 => match g a l u with
    | some p => (setq i p.2 ρ3).bnd fun _ ρ4 => .ok p.1 ρ4
    | none => .bad := by
  show (peek i >>= _) ρ = _
  rw [bind_app]
  refine bnd_congr fun a0 ρ0 => ?_
  rw [bind_app]
  refine bnd_congr fun l ρ1 => ?_
  rw [bind_app]
  refine bnd_congr fun u ρ2 => ?_
  rw [bind_app]
  refine bnd_congr fun a ρ3 => ?_
  rw [bind_app]
  cases g a l u with
  | none => rfl
  | some p => rw [optM_some, bnd_ok, bind_app]; rfl
theorem cut_init {α : Type} {xs : List α} : cutL xs none (some (-1)) = xs.dropLast := by
  unfold cutL
  rw [List.dropLast_eq_take]
  show (xs.drop 0).take ((if (-1 : Int) < 0 then (-1 + (xs.length : Int)).toNat else min (-1 : Int).toNat xs.length) - 0) = xs.take (xs.length - 1)
  rw [if_pos (by decide), List.drop_zero]
  congr 1
  omega
theorem ixN_last {n : Nat} (h : 0 < n) : ixN n (-1) = some (n - 1) := by
  unfold ixN
  rw [if_neg (by decide), if_pos (by omega)]
  congr 1
  omega
end
end Mir
namespace Mir
open PySem PySem.Spec PyProof.Rows L2
section
variable {ρ : Env}
@[simp] theorem isxM_app {et : ETab} {x : Exn} {i : Nat} {ans : Str → Bool} : isxM et x i ans ρ = (peek i ρ).bnd fun d ρ1 => if isx d = true ∧ (et.any fun p => p.1 == x.cls) = true then .ok (.bl (ans x.cls)) ρ1 else .bad := by
  unfold isxM
  rw [bind_app]
  refine bnd_congr fun d ρ1 => ?_
  by_cases h : isx d = true ∧ (et.any fun p => p.1 == x.cls) = true
  · rw [if_pos h, if_pos h]; rfl
  · rw [if_neg h, if_neg h]; rfl
@[simp] theorem fldM_app {et : ETab} {x : Exn} {i : Nat} {f : Str} : fldM et x i f ρ = (peek i ρ).bnd fun d ρ1 => if isx d = true ∧ (et.any fun p => p.1 == x.cls && p.2.contains f) = true then (match (x.fs.zip x.xs).lookup f with | some e => .ok (fz e) ρ1 | none => .bad) else .bad := by
  unfold fldM
  rw [bind_app]
  refine bnd_congr fun d ρ1 => ?_
  by_cases h : isx d = true ∧ (et.any fun p => p.1 == x.cls && p.2.contains f) = true
  · rw [if_pos h, if_pos h]
    cases (x.fs.zip x.xs).lookup f <;> rfl
  · rw [if_neg h, if_neg h]; rfl
@[simp] theorem callX_app {f : List D → FRes} {i : Nat} : callX f i ρ = (peek i ρ).bnd fun d ρ1 => if isx d = true then (match f [.exn] with | .ok r _ => .ok r ρ1 | _ => .bad) else .bad := by
  unfold callX
  rw [bind_app]
  refine bnd_congr fun d ρ1 => ?_
  by_cases h : isx d = true
  · rw [if_pos h, if_pos h]
    cases f [.exn] <;> rfl
  · rw [if_neg h, if_neg h]; rfl
theorem tryM_ok {i : Nat} {tbl : Str → Option Bool} {gb : M Flw} {gs : Exn → M Flw} {fl : Flw} {ρ1 : Env} (h : gb ρ = .ok fl ρ1) : tryM i tbl gb gs ρ = .ok fl ρ1 := by
  unfold tryM
  rw [h]
theorem tryM_err {i : Nat} {tbl : Str → Option Bool} {gb : M Flw} {gs : Exn → M Flw} {fl : Flw} {x : Exn} {ρ1 ρ2 : Env} (h : gb ρ = .err x ρ1) (ht : tbl x.cls = some true) (hi : i < ρ1.length) (hg : gs (heldX x) (ρ1.set i (some .exn)) = .ok fl ρ2) (hn : noExn (ρ2.set i none) = true) :
    tryM i tbl gb gs ρ = .ok fl (ρ2.set i none) := by
  unfold tryM
  rw [h]
  simp only [ht, hi, if_true, hg, exitM, hn]
theorem defX_rt {m : Nat} {ln : List Bool} {g : M Flw} {ds outs : List D} {d : D} {ρ' : Env} (h : g (Mir.envOf m ds) = .ok (.rt d) ρ') (ho : outsOf ln ρ' = some outs) (hl : ln.length = ds.length) (h0 : isx (ds.headD .non) = true) (hx : (ds.tail.any isx) = false) : defX m ln g ds = .ok d outs := by
  unfold defX
  rw [if_pos ⟨hl, h0, hx⟩, h]
  simp only [finF, ho]
end
end Mir
end
section
set_option Elab.async false
set_option linter.all false
set_option maxRecDepth 100000
set_option maxHeartbeats 4000000
/-! MirS: shared by the laws: reckoning in continuation form; the source of numbers; texts; _law_same. -/
namespace MS
open PySem PySem.Spec PyProof.Rows L2 Mir
@[simp] theorem oNe_ii {i j : Int} : oNe (.int i) (.int j) = some (.bl (!decide (i = j)), .int i, .int j) := by
  unfold oNe deq
  simp [toP, PyData.eqv, shp_i]
  by_cases h : i = j <;> simp [h]
section
variable {ρ : Mir.Env} {f g : M D}
@[simp] theorem orV_app : orV f g ρ = (asB f ρ).bnd fun b ρ1 => if b = true then .ok (.bl true) ρ1 else g ρ1 := by
  unfold orV
  rw [bind_app]
  refine bnd_congr fun b ρ1 => ?_
  cases b <;> rfl
@[simp] theorem notV_app : notV f ρ = (asB f ρ).bnd fun b ρ1 => .ok (.bl (!b)) ρ1 := by
  unfold notV
  rw [bind_app]
  rfl
@[simp] theorem raiseErr_app {nm msg : Str} {fs : List Str} {cat : Bool} {h : M (List D)} : raiseErr nm fs msg cat h ρ = (h ρ).bnd fun ds ρ1 => if ds.length = fs.length ∧ ((!cat) || catOk msg ds) = true then .err ⟨nm, fs, ds⟩ ρ1 else .bad := by
  unfold raiseErr
  rw [bind_app]
  refine bnd_congr fun ds ρ1 => ?_
  split <;> rfl
@[simp] theorem forR1_app {h : M (List D)} {tg : D → M Unit} {body : M Flw} : forR1 h tg body ρ = (h ρ).bnd fun ds ρ1 => match ds with
    | [.int j] => if inR j = true then loopM tg body (rangeD 0 j.toNat) ρ1 else .bad
    | _ => .bad := by
  unfold forR1
  rw [bind_app]
  refine bnd_congr fun ds ρ1 => ?_
  match ds with
  | [.int j] =>
    show (if inR j = true then _ else _ : M Flw) ρ1 = _
    by_cases q : inR j = true
    · simp only [q, if_true]
    · simp only [q, if_false]; rfl
  | [] => rfl
  | [.non] => rfl
  | [.bl _] => rfl
  | [.str _] => rfl
  | [.val _] => rfl
  | [.seq _] => rfl
  | [.lst _ _] => rfl
  | [.tup _] => rfl
  | [.dic _ _ _] => rfl
  | [.ins _ _ _ _] => rfl
  | [.exn] => rfl
  | a :: _ :: _ => cases a <;> rfl
theorem forR2_app {h : M (List D)} {tg : D → M Unit} {body : M Flw} {i j : Int} {ρ1 : Mir.Env} (e : h ρ = .ok [.int i, .int j] ρ1) (hi : inR i = true) (hj : inR j = true) : forR2 h tg body ρ = loopM tg body (rangeD i (j - i).toNat) ρ1 := by
  unfold forR2
  rw [bind_app, e, bnd_ok]
  simp only [hi, hj, and_self, if_true]
@[simp] theorem augM_app {i : Nat} {h : D → D → Option (D × D × D)} : augM i f h ρ = (peek i ρ).bnd fun _ ρ0 => (f ρ0).bnd fun b ρ1 => (peek i ρ1).bnd fun a ρ2 => match h a b with
    | some p => (stv i p.1 ρ2).bnd fun _ ρ3 => .ok .nx ρ3
    | none => .bad := by
  unfold augM
  rw [bind_app]
  refine bnd_congr fun _ ρ0 => ?_
  rw [bind_app]
  refine bnd_congr fun b ρ1 => ?_
  rw [bind_app]
  refine bnd_congr fun a ρ2 => ?_
  rw [bind_app]
  cases h a b with
  | none => rfl
  | some p =>
    rw [optM_some, bnd_ok, bind_app, noX_stv]
    rfl
end
/-! ### continuations -/
section
variable {α : Type} {K : α → Mir.Env → Prop} {KE : Exn → Mir.Env → Prop} {ρ : Mir.Env}
@[simp] theorem post_ok {a : α} : OPost K KE (.ok a ρ) ↔ K a ρ := Iff.rfl
@[simp] theorem post_err {x : Exn} : OPost K KE (.err x ρ : Out α) ↔ KE x ρ := Iff.rfl
@[simp] theorem post_bad : OPost K KE (.bad : Out α) ↔ False := Iff.rfl
theorem post_if {p : Prop} [Decidable p] {a b : Out α} : OPost K KE (if p then a else b) ↔ (if p then OPost K KE a else OPost K KE b) := by split <;> exact Iff.rfl
end
/-- one statement, then the rest -/
theorem seq_cut {f g : M Flw} {K : Flw → Mir.Env → Prop} {KE : Exn → Mir.Env → Prop} {ρ : Mir.Env} (h : ∀ N : Mir.Env → Prop, (∀ ρ1, OPost K KE (g ρ1) → N ρ1) → OPost (fun fl ρ1 => match fl with | .nx => N ρ1 | x => K x ρ1) KE (f ρ)) : OPost K KE (seqM f g ρ) := by
  have h1 := h (fun ρ1 => OPost K KE (g ρ1)) fun _ z => z
  rw [seqM_app]
  cases q : f ρ with
  | ok fl ρ1 =>
    rw [q] at h1
    cases fl <;> exact h1
  | err x ρ1 => rw [q] at h1; exact h1
  | bad => rw [q] at h1; exact h1
/-- a def's end -/
def FinK (ln : List Bool) (K : D → List D → Prop) : Flw → Mir.Env → Prop := fun fl ρ => match fl with
  | .rt d => ∃ outs, outsOf ln ρ = some outs ∧ K d outs
  | .nx => ∃ outs, outsOf ln ρ = some outs ∧ K .non outs
  | _ => False
def RPost (K : D → List D → Prop) (KE : Exn → Prop) : FRes → Prop
  | .ok d outs => K d outs
  | .err x => KE x
  | .bad => False
theorem def_post {m : Nat} {ln : List Bool} {g : M Flw} {ds : List D} {K : D → List D → Prop} {KE : Exn → Prop} (h : OPost (FinK ln K) (fun x _ => KE x) (g (Mir.envOf m ds))) (hl : ln.length = ds.length := by rfl) (hx : (ds.any isx) = false := by simp) : RPost K KE (defF m ln g ds) := by
  unfold defF
  rw [if_pos ⟨hl, hx⟩]
  cases q : g (Mir.envOf m ds) with
  | ok fl ρ =>
    rw [q] at h
    cases fl with
    | rt d =>
      obtain ⟨outs, e, k⟩ := h
      simp only [finF, e]
      exact k
    | nx =>
      obtain ⟨outs, e, k⟩ := h
      simp only [finF, e]
      exact k
    | bk => exact h.elim
    | ct => exact h.elim
  | err x ρ => rw [q] at h; exact h
  | bad => rw [q] at h; exact h.elim
theorem RPost.ok {K : D → List D → Prop} {r : FRes} (h : RPost K (fun _ => False) r) : ∃ d outs, r = .ok d outs ∧ K d outs := by
  cases r with
  | ok d outs => exact ⟨d, outs, rfl, h⟩
  | err x => exact h.elim
  | bad => exact h.elim
theorem RPost.err {KE : Exn → Prop} {r : FRes} (h : RPost (fun _ _ => False) KE r) : ∃ x, r = .err x ∧ KE x := by
  cases r with
  | ok d outs => exact h.elim
  | err x => exact ⟨x, rfl, h⟩
  | bad => exact h.elim
/-- a loop's word -/
theorem loop_post {tg : D → M Unit} {body : M Flw} {K : Flw → Mir.Env → Prop} {KE : Exn → Mir.Env → Prop} (I : List D → Mir.Env → Prop) (h0 : ∀ ρ, I [] ρ → K .nx ρ)
    (h : ∀ d ds ρ, I (d :: ds) ρ → ∀ N : Mir.Env → Prop, (∀ ρ', I ds ρ' → N ρ') → OPost (fun _ ρ1 => OPost (fun fl ρ2 => match fl with | .nx => N ρ2 | .ct => N ρ2 | .bk => K .nx ρ2 | .rt x => K (.rt x) ρ2) KE (body ρ1)) (fun _ _ => False) (tg d ρ)) :
    ∀ ds ρ, I ds ρ → OPost K KE (loopM tg body ds ρ)
  | [], ρ, hi => h0 ρ hi
  | d :: ds, ρ, hi => by
    have h1 := h d ds ρ hi (fun ρ' => OPost K KE (loopM tg body ds ρ')) fun ρ' z => loop_post I h0 h ds ρ' z
    rw [loopM_cons, noX_app]
    cases q : tg d ρ with
    | ok u ρ1 =>
      rw [q] at h1
      rw [post_ok] at h1
      show OPost K KE ((body ρ1).bnd _)
      cases q2 : body ρ1 with
      | ok fl ρ2 =>
        rw [q2] at h1
        cases fl <;> exact h1
      | err x ρ2 => rw [q2] at h1; exact h1
      | bad => rw [q2] at h1; exact h1
    | err x ρ1 => rw [q] at h1; exact h1.elim
    | bad => rw [q] at h1; exact h1.elim
/-- a comprehension that maps, in a state that stays -/
theorem compM_map {vs : List Nat} {tg : D → M Unit} {elt : M D} {ρ : Mir.Env} (F : D → D) (hw : wipeD ρ vs = ρ) (ds acc : List D) (h : ∀ d ∈ ds, ∃ ρ1 ρ2, tg d ρ = .ok () ρ1 ∧ wipeD ρ2 vs = ρ ∧ elt ρ1 = .ok (F d) ρ2) (hl : acc.length + ds.length ≤ sizeLine) :
    noX (compM vs tg (pure true) elt ds acc) ρ = .ok (acc ++ ds.map F) ρ := by
  obtain ⟨ys, ρ', e, hI, hA⟩ := compM_run (vs := vs) (tg := tg) (elt := elt) (I := fun r => r = ρ) (P := fun d y => y = F d) (fun r e => by subst e; exact hw) ds acc ρ (fun d hd r e => by
    subst e
    obtain ⟨ρ1, ρ2, e1, e2, e3⟩ := h d hd
    exact ⟨ρ1, F d, ρ2, e1, e3, rfl, e2⟩) rfl hl
  subst hI
  have : ys = ds.map F := by
    clear e hl h
    induction hA with
    | nil => rfl
    | cons h1 _ ih => rw [h1, ih]; rfl
  rw [e, this]
/-- a comprehension whose element may raise, in a state that stays -/
theorem errW_app {α : Type} {vs : List Nat} {f : M α} {ρ : Mir.Env} : errW vs f ρ = (match f ρ with | .err x ρ' => .err x (wipeD ρ' vs) | o => o) := rfl
theorem compX_run {vs : List Nat} {tg : D → M Unit} {elt : M D} {ρ : Mir.Env} {x : Exn} (F : D → Option D) (hw : wipeD ρ vs = ρ) : ∀ (ds acc : List D),
    (∀ d ∈ ds, ∃ ρ1 ρ2, tg d ρ = .ok () ρ1 ∧ wipeD ρ2 vs = ρ ∧ elt ρ1 = (match F d with | some y => .ok y ρ2 | none => .err x ρ2)) → acc.length + ds.length ≤ sizeLine →
    compX vs tg (pure true) elt ds acc ρ = (match ds.mapM F with | some ys => .ok (acc ++ ys) ρ | none => .err x ρ)
  | [], acc, _, _ => by
    show (wipeM vs >>= fun _ => pure acc) ρ = _
    rw [bind_app]
    show Out.ok acc (wipeD ρ vs) = _
    rw [hw]
    simp
  | d :: ds, acc, h, hl => by
    obtain ⟨ρ1, ρ2, e1, e2, e3⟩ := h d List.mem_cons_self
    rw [List.length_cons] at hl
    have ih := compX_run (tg := tg) (elt := elt) (x := x) F hw ds
    have key : compX vs tg (pure true) elt (d :: ds) acc ρ = (noX (tg d) ρ).bnd fun _ ρ1 => (noX (pure true : M Bool) ρ1).bnd fun b ρ2 => (if b = true then (do
        let y ← errW vs elt
        if acc.length < sizeLine then do
          wipeM vs
          compX vs tg (pure true) elt ds (acc ++ [y])
        else badM) else (do
      wipeM vs
      compX vs tg (pure true) elt ds acc) : M (List D)) ρ2 := by
      rw [compX, bind_app]
      refine bnd_congr fun _ ρ1 => ?_
      rw [bind_app]
    rw [key, noX_app, e1]
    show ((errW vs elt >>= fun y => _ : M (List D)) ρ1) = _
    rw [bind_app, errW_app, e3]
    cases q : F d with
    | none =>
      simp only [q, List.mapM_cons, bnd_err, e2]
      rfl
    | some y =>
      simp only [q, bnd_ok, List.mapM_cons]
      have l1 : acc.length < sizeLine := by omega
      simp only [l1, if_true]
      rw [bind_app]
      show (compX vs tg (pure true) elt ds (acc ++ [y])) (wipeD ρ2 vs) = _
      rw [e2, ih (acc ++ [y]) (fun z hz => h z (List.mem_cons_of_mem _ hz)) (by rw [List.length_append]; simp; omega)]
      cases q2 : ds.mapM F with
      | none => rfl
      | some ys =>
        show Out.ok (acc ++ [y] ++ ys) ρ = Out.ok (acc ++ (y :: ys)) ρ
        rw [List.append_assoc]
        rfl
theorem lcE_app {vs : List Nat} {f : M D} {tg : D → M Unit} {tst : M Bool} {elt : M D} {ρ ρ1 : Mir.Env} {o : Bool} {ds : List D} (e : f ρ = .ok (.lst o ds) ρ1) : lcE vs f tg tst elt ρ = (compX vs tg tst elt (fzL ds) [] (wipeD ρ1 vs)).bnd fun r ρ2 => .ok (.lst true r) ρ2 := by
  unfold lcE
  rw [bind_app, e, bnd_ok]
  show (wipeM vs >>= fun _ => _ : M D) ρ1 = _
  rw [bind_app]
  show (compX vs tg tst elt (fzL ds) [] >>= fun r => _ : M D) (wipeD ρ1 vs) = _
  rw [bind_app]
  rfl
/-! ### the source of numbers -/
def g__law_source : M Flw :=
    (seqM (asgM (pure (.int 0)) (stv 2))
    (seqM (forL (evS (.slot 0) none (some (pure (.int 63))) oSl) (stv 3)
    (asgM (ev2 (.tmp (ev2 (.tmp (ev2 (.tmp (ev2 (.slot 2) (.tmp (pure (.int 1000003))) oMul)) (.tmp (ev1 (.slot 3) oInt)) oPlus)) (.tmp (pure (.int 12289))) oPlus)) (.tmp (pure (.int 2305843009213693951))) oMod) (stv 2)))
    (seqM (asgM (ifV (asB (ev2 (.slot 1) (.tmp (ev1 (.slot 0) oLen)) oLt)) (ev1 (.tmp (ev2 (.slot 0) (.slot 1) oIx)) oInt) (pure (.int 0))) (stv 4))
    (seqM (asgM (ev2 (.tmp (pure (.int 10))) (.tmp (pure (.int 64))) oPow) (stv 5))
    (seqM (asgM (ev2 (.slot 4) (.tmp (ev2 (.tmp (ev2 (.tmp (ev2 (.tmp (ev2 (.slot 5) (.tmp (rdv 5)) oMul)) (.slot 5) oMul)) (.slot 5) oMul)) (.slot 5) oMul)) oMod) (stv 4))
    (seqM (asgM (ifV (asB (ev2 (.slot 4) (.tmp (ev2 (.tmp (pure (.int 10))) (.tmp (pure (.int 18))) oPow)) oGe)) (rdv 4) (pure (.int 0))) (stv 6))
    (retM (lstM (consM (mvv 6) (consM (ev2 (.tmp (ev2 (.tmp (ev2 (.slot 2) (.tmp (ev2 (.tmp (pure (.int 911))) (.slot 1) oMul)) oPlus)) (.tmp (pure (.int 7))) oPlus)) (.tmp (pure (.int 2147483647))) oMod) (consM (ev2 (.tmp (ev2 (.tmp (ev2 (.tmp (ev2 (.slot 2) (.tmp (pure (.int 2147483647))) oDiv)) (.tmp (ev2 (.tmp (pure (.int 5077))) (.slot 1) oMul)) oPlus)) (.tmp (pure (.int 3))) oPlus)) (.tmp (pure (.int 2147483629))) oMod) (consM (pure (.int 0)) (pure [])))))))))))))
def m__law_source : List D → FRes := defF 7 [false, false] g__law_source
def g__law_pick : M Flw :=
    (seqM (ifM (asB (ev2 (.slot 1) (.tmp (pure (.int 1))) oLe))
    (retM (pure (.int 0)))
    (pure .nx))
    (seqM (ifM (asB (ev2 (.tmp (ev2 (.slot 0) (.tmp (pure (.int 0))) oIx)) (.tmp (pure (.int 0))) oGt))
    (seqM (asgM (ev2 (.tmp (ev1 (.tmp (ev2 (.slot 0) (.tmp (pure (.int 0))) oIx)) oInt)) (.slot 1) oMod) (stv 2))
    (seqM (setIx 0 (ev2 (.tmp (ev2 (.slot 0) (.tmp (pure (.int 0))) oIx)) (.slot 1) oDiv) (pure (.int 0)))
    (retM (mvv 2))))
    (pure .nx))
    (seqM (setIx 0 (ev2 (.tmp (ev2 (.slot 0) (.tmp (pure (.int 3))) oIx)) (.tmp (pure (.int 1))) oPlus) (pure (.int 3)))
    (seqM (setIx 0 (ev2 (.tmp (ev2 (.tmp (ev2 (.tmp (ev2 (.tmp (ev2 (.slot 0) (.tmp (pure (.int 1))) oIx)) (.tmp (pure (.int 48271))) oMul)) (.tmp (ev2 (.tmp (ev2 (.slot 0) (.tmp (pure (.int 3))) oIx)) (.tmp (pure (.int 69621))) oMul)) oPlus)) (.tmp (pure (.int 11))) oPlus)) (.tmp (pure (.int 2147483647))) oMod) (pure (.int 1)))
    (seqM (setIx 0 (ev2 (.tmp (ev2 (.tmp (ev2 (.tmp (ev2 (.tmp (ev2 (.slot 0) (.tmp (pure (.int 2))) oIx)) (.tmp (pure (.int 69621))) oMul)) (.tmp (ev2 (.tmp (ev2 (.slot 0) (.tmp (pure (.int 1))) oIx)) (.tmp (pure (.int 7))) oMul)) oPlus)) (.tmp (ev2 (.slot 0) (.tmp (pure (.int 3))) oIx)) oPlus)) (.tmp (pure (.int 2147483629))) oMod) (pure (.int 2)))
    (retM (ev2 (.tmp (ev2 (.tmp (ev2 (.tmp (ev2 (.slot 0) (.tmp (pure (.int 1))) oIx)) (.tmp (pure (.int 5))) oDiv)) (.tmp (ev2 (.tmp (ev2 (.slot 0) (.tmp (pure (.int 2))) oIx)) (.tmp (pure (.int 3))) oDiv)) oPlus)) (.slot 1) oMod)))))))
def m__law_pick : List D → FRes := defF 3 [true, false] g__law_pick
def g__law_one : M Flw :=
    (retM (ev2 (.slot 1) (.tmp (callM m__law_pick [.slot 0, .tmp (ev1 (.slot 1) oLen)])) oIx))
def m__law_one : List D → FRes := defF 2 [true, false] g__law_one
def b__law_same (m_rec : List D → FRes) : M Flw :=
    (seqM (ifM (asB (ev2 (.slot 1) (.tmp (pure .non)) oIs))
    (retM (ev2 (.slot 0) (.tmp (pure .non)) oIs))
    (pure .nx))
    (seqM (ifM (evT (.tmp (ev1 (.slot 1) (oIsi "str"))))
    (retM (andV (ev1 (.slot 0) (oIsi "str")) (ev2 (.slot 0) (.slot 1) oEq)))
    (pure .nx))
    (seqM (ifM (evT (.tmp (ev1 (.slot 1) (oIsi "int"))))
    (retM (andV (ev1 (.slot 0) (oIsi "int")) (andV (ev2 (.tmp (ev1 (.slot 0) (oIsi "bool"))) (.tmp (ev1 (.slot 1) (oIsi "bool"))) oEq) (ev2 (.slot 0) (.slot 1) oEq))))
    (pure .nx))
    (seqM (ifM (evT (.tmp (ev1 (.slot 1) (oIsi "dict"))))
    (seqM badM
    badM)
    (pure .nx))
    (seqM (ifM (orT (asB (ev2 (.tmp (ev1 (.slot 1) (oIsi "tuple"))) (.tmp (ev1 (.slot 0) (oIsi "tuple"))) oNe)) (asB (ev2 (.tmp (ev1 (.slot 1) (oIsi "list"))) (.tmp (ev1 (.slot 0) (oIsi "list"))) oNe)))
    (retM (pure (.bl false)))
    (pure .nx))
    (retM (andV (ev2 (.tmp (ev1 (.slot 0) oLen)) (.tmp (ev1 (.slot 1) oLen)) oEq) (ev1 (.tmp (lcR1 [3] (consM (ev1 (.slot 1) oLen) (pure [])) (stv 3) (pure true) (callE2 m_rec 0 3 1 3))) oAll))))))))
def m__law_same : Nat → List D → FRes
  | 0 => fun _ => .bad
  | n + 1 => defF 4 [true, true] (b__law_same (m__law_same n))
abbrev S4 (a b c d : Int) : D := .lst true [.int a, .int b, .int c, .int d]
def IsS (s : D) : Prop := ∃ a b c d, s = S4 a b c d
theorem oIx_lit {o : Bool} {a b c d : D} : oIx (.lst o [a, b, c, d]) (.int 0) = some (fz a, .lst o [fz a, b, c, d], .int 0) ∧ oIx (.lst o [a, b, c, d]) (.int 1) = some (fz b, .lst o [a, fz b, c, d], .int 1) ∧
    oIx (.lst o [a, b, c, d]) (.int 2) = some (fz c, .lst o [a, b, fz c, d], .int 2) ∧ oIx (.lst o [a, b, c, d]) (.int 3) = some (fz d, .lst o [a, b, c, fz d], .int 3) := ⟨rfl, rfl, rfl, rfl⟩
@[simp] theorem ixN40 : ixN 4 0 = some 0 := rfl
@[simp] theorem ixN41 : ixN 4 1 = some 1 := rfl
@[simp] theorem ixN42 : ixN 4 2 = some 2 := rfl
@[simp] theorem ixN43 : ixN 4 3 = some 3 := rfl
theorem pick_small {a b c d many : Int} (hm : many ≤ 1) : m__law_pick [S4 a b c d, .int many] = .ok (.int 0) [S4 a b c d, .non] := by
  simp [m__law_pick, defF, Mir.envOf, g__law_pick, hm, finF, outsOf]
theorem pick_own {a b c d many : Int} (hm : ¬ many ≤ 1) (ha : 0 < a) (hl : many.natAbs.log2 < 9000) : m__law_pick [S4 a b c d, .int many] = .ok (.int (a % many)) [S4 (a / many) b c d, .non] := by
  have h0 : 0 < many := by omega
  simp [m__law_pick, defF, Mir.envOf, g__law_pick, hm, finF, outsOf, oIx_lit, ha, oMod_ii h0, oDiv_ii h0 hl]
theorem pick_else {a b c d many : Int} (hm : ¬ many ≤ 1) (ha : ¬ 0 < a) (hl : many.natAbs.log2 < 9000) : ∃ r b' c' d', m__law_pick [S4 a b c d, .int many] = .ok (.int (r % many)) [S4 a b' c' d', .non] := by
  have h0 : 0 < many := by omega
  have m1 : ∀ i, oMul (.int i) (.int 48271) = some (.int (i * 48271), .int i, .int 48271) := fun i => oMul_ii (by simp [mulB])
  have m2 : ∀ i, oMul (.int i) (.int 69621) = some (.int (i * 69621), .int i, .int 69621) := fun i => oMul_ii (by simp [mulB])
  have m3 : ∀ i, oMul (.int i) (.int 7) = some (.int (i * 7), .int i, .int 7) := fun i => oMul_ii (by simp [mulB])
  have n1 : ∀ i, oMod (.int i) (.int 2147483647) = some (.int (i % 2147483647), .int i, .int 2147483647) := fun i => oMod_ii (by decide)
  have n2 : ∀ i, oMod (.int i) (.int 2147483629) = some (.int (i % 2147483629), .int i, .int 2147483629) := fun i => oMod_ii (by decide)
  have n3 : ∀ i, oDiv (.int i) (.int 5) = some (.int (i / 5), .int i, .int 5) := fun i => oDiv_ii (by decide) (by decide)
  have n4 : ∀ i, oDiv (.int i) (.int 3) = some (.int (i / 3), .int i, .int 3) := fun i => oDiv_ii (by decide) (by decide)
  have key : ∃ (z : Int × Int × Int × Int), m__law_pick [S4 a b c d, .int many] = .ok (.int (z.1 % many)) [S4 a z.2.1 z.2.2.1 z.2.2.2, .non] := by
    simp [m__law_pick, defF, Mir.envOf, g__law_pick, hm, finF, outsOf, oIx_lit, ha, m1, m2, m3, n1, n2, n3, n4, oMod_ii h0]
    exact ⟨_, rfl⟩
  obtain ⟨z, e⟩ := key
  exact ⟨_, _, _, _, e⟩
theorem log_small {many : Int} (h : many < 2 ^ 60) (h0 : 0 ≤ many) : many.natAbs.log2 < 9000 := by
  by_cases z : many.natAbs = 0
  · rw [z]; decide
  · rw [Nat.log2_lt z]
    refine Nat.lt_of_lt_of_le (m := 2 ^ 60) ?_ (Nat.pow_le_pow_right (by decide) (by decide))
    omega
theorem pick_ok {s : D} (hs : IsS s) {many : Int} (h1 : 1 ≤ many) (h2 : many < 2 ^ 60) : ∃ r s', IsS s' ∧ 0 ≤ r ∧ r < many ∧ m__law_pick [s, .int many] = .ok (.int r) [s', .non] := by
  obtain ⟨a, b, c, d, rfl⟩ := hs
  by_cases hm : many ≤ 1
  · exact ⟨0, _, ⟨_, _, _, _, rfl⟩, by omega, by omega, pick_small hm⟩
  · have hl := log_small h2 (by omega)
    by_cases ha : 0 < a
    · exact ⟨_, _, ⟨_, _, _, _, rfl⟩, Int.emod_nonneg _ (by omega), Int.emod_lt_of_pos _ (by omega), pick_own hm ha hl⟩
    · obtain ⟨r, b', c', d', e⟩ := pick_else hm ha hl (b := b) (c := c) (d := d)
      exact ⟨_, _, ⟨_, _, _, _, rfl⟩, Int.emod_nonneg _ (by omega), Int.emod_lt_of_pos _ (by omega), e⟩
theorem isS_isx {s : D} (h : IsS s) : isx s = false := by obtain ⟨a, b, c, d, rfl⟩ := h; rfl
def cl (x : Str) : List Nat := x.cps.toList
theorem cl_len (x : Str) : (cl x).length = x.length := by simp [cl, Str.length]
theorem str_ext {a b : Str} (h : cl a = cl b) : a = b := by
  obtain ⟨⟨a⟩⟩ := a
  obtain ⟨⟨b⟩⟩ := b
  simp [cl] at h
  rw [h]
theorem cpOk_of {x : Str} (h : ∀ c ∈ cl x, c < 1114112) : cpOk x = true := by
  unfold cpOk
  rw [← Array.all_toList, List.all_eq_true]
  exact fun c hc => decide_eq_true (h c hc)
theorem join_empty_chars (l : List Nat) : cl (Txt.join ⟨#[]⟩ (l.map fun c => (⟨#[c]⟩ : Str))) = l := by
  show cl (Builtin.Str.glued _ _) = l
  rw [StrLaws.glued_eq_join]
  induction l with
  | nil => rfl
  | cons c l ih =>
    cases l with
    | nil => rfl
    | cons d l =>
      show cl ((⟨#[c]⟩ : Str) ++ ⟨#[]⟩ ++ Str.join ⟨#[]⟩ ((d :: l).map fun c => (⟨#[c]⟩ : Str))) = _
      have : cl ((⟨#[c]⟩ : Str) ++ ⟨#[]⟩ ++ Str.join ⟨#[]⟩ ((d :: l).map fun c => (⟨#[c]⟩ : Str))) = [c] ++ cl (Str.join ⟨#[]⟩ ((d :: l).map fun c => (⟨#[c]⟩ : Str))) := by
        simp [cl, Str.cps_append]
      rw [this, ih]
      rfl
theorem strsOf_map (ys : List Str) : strsOf (ys.map D.str) = some ys := by
  induction ys with
  | nil => rfl
  | cons y ys ih => simp [strsOf, ih]
theorem oJoin_ok {x : Str} {o : Bool} {ys : List Str} (h : (ys.map (·.length)).sum + ys.length * x.length ≤ 16777216) : oJoin (.str x) (.lst o (ys.map D.str)) = some (.str (Txt.join x ys), .str x, .lst o (ys.map D.str)) := by
  show (match strsOf (ys.map D.str) with
    | some ys' => if (ys'.map fun z : Str => z.length).sum + ys'.length * x.length ≤ 16777216 then some (D.str (Txt.join x ys'), D.str x, D.lst o (ys.map D.str)) else none
    | none => none) = _
  rw [strsOf_map]
  simp only [h, if_true]
theorem atI_lt {l : List Nat} {i : Int} (h0 : 0 ≤ i) (h1 : i < l.length) : ∃ c, atI l i = some c ∧ c ∈ l := by
  have hk : ixN l.length i = some i.toNat := by unfold ixN; rw [if_pos h0, if_pos h1]
  have hlt : i.toNat < l.length := by omega
  refine ⟨l[i.toNat], ?_, List.getElem_mem hlt⟩
  unfold atI
  rw [hk]
  exact List.getElem?_eq_getElem hlt
theorem oIx_str {x : Str} {i : Int} {c : Nat} (hz : x.length ≤ sizeLine) (h : atI (cl x) i = some c) : oIx (.str x) (.int i) = some (.str ⟨#[c]⟩, .str x, .int i) := by
  unfold oIx
  have h' : atI x.cps.toList i = some c := h
  simp only [hz, if_true]
  rw [h']
theorem inR_of {j : Int} (h0 : 0 ≤ j) (h1 : j < 2 ^ 60) : Mir.inR j = true := by
  unfold Mir.inR
  simp only [Bool.and_eq_true, decide_eq_true_eq]
  omega
theorem sizeL : sizeLine = 16777216 := rfl
def jl (c : Nat) : List (List Nat) → List Nat
  | [] => []
  | [x] => x
  | x :: y :: r => x ++ c :: jl c (y :: r)
theorem join_cl (c : Nat) : ∀ ws : List Str, cl (Str.join ⟨#[c]⟩ ws) = jl c (ws.map cl)
  | [] => rfl
  | [x] => rfl
  | x :: y :: r => by
    have ih := join_cl c (y :: r)
    show cl (x ++ ⟨#[c]⟩ ++ Str.join ⟨#[c]⟩ (y :: r)) = cl x ++ c :: jl c ((y :: r).map cl)
    rw [← ih]
    simp [cl, Str.cps_append]
theorem cut_eq {c : Nat} : ∀ {p q X Y : List Nat}, c ∉ p → c ∉ q → p ++ c :: X = q ++ c :: Y → p = q ∧ X = Y
  | [], [], X, Y, _, _, h => ⟨rfl, by simpa using h⟩
  | [], b :: q, X, Y, _, hq, h => by
    simp at h
    exact absurd h.1 fun z => hq (by rw [z]; exact List.mem_cons_self)
  | a :: p, [], X, Y, hp, _, h => by
    simp at h
    exact absurd h.1 fun z => hp (by rw [z]; exact List.mem_cons_self)
  | a :: p, b :: q, X, Y, hp, hq, h => by
    simp at h
    obtain ⟨e1, e2⟩ := cut_eq (fun z => hp (List.mem_cons_of_mem _ z)) (fun z => hq (List.mem_cons_of_mem _ z)) h.2
    exact ⟨by rw [h.1, e1], e2⟩
theorem jl_inj {c : Nat} : ∀ {ps qs : List (List Nat)}, ps ≠ [] → qs ≠ [] → (∀ p ∈ ps, c ∉ p) → (∀ q ∈ qs, c ∉ q) → jl c ps = jl c qs → ps = qs
  | [], _, h, _, _, _, _ => absurd rfl h
  | _, [], _, h, _, _, _ => absurd rfl h
  | [p], [q], _, _, _, _, h => by rw [show p = q from h]
  | [p], q :: q' :: r, _, _, hp, _, h => by
    have h' : p = q ++ c :: jl c (q' :: r) := h
    exact absurd (show c ∈ p by rw [h']; simp) (hp p List.mem_cons_self)
  | p :: p' :: r, [q], _, _, _, hq, h => by
    have h' : p ++ c :: jl c (p' :: r) = q := h
    exact absurd (show c ∈ q by rw [← h']; simp) (hq q List.mem_cons_self)
  | p :: p' :: r, q :: q' :: t, _, _, hp, hq, h => by
    have h' : p ++ c :: jl c (p' :: r) = q ++ c :: jl c (q' :: t) := h
    obtain ⟨e1, e2⟩ := cut_eq (hp p List.mem_cons_self) (hq q List.mem_cons_self) h'
    rw [e1, jl_inj (by simp) (by simp) (fun z hz => hp z (List.mem_cons_of_mem _ hz)) (fun z hz => hq z (List.mem_cons_of_mem _ hz)) e2]
theorem map_cl_inj {a b : List Str} (h : a.map cl = b.map cl) : a = b := by
  induction a generalizing b with
  | nil => cases b with
    | nil => rfl
    | cons _ _ => cases h
  | cons x a ih => cases b with
    | nil => cases h
    | cons y b =>
      simp only [List.map_cons, List.cons.injEq] at h
      rw [str_ext h.1, ih h.2]
theorem split_unique {c : Nat} {x : Str} {ws : List Str} (hne : ws ≠ []) (hf : ∀ w ∈ ws, c ∉ cl w) (h : cl x = jl c (ws.map cl)) : Txt.split x ⟨#[c]⟩ = ws := by
  have h1 : Str.join ⟨#[c]⟩ (Txt.split x ⟨#[c]⟩) = x := StrLaws.join_split x ⟨#[c]⟩
  have h2 := StrLaws.split_free x c
  have h3 : Txt.split x ⟨#[c]⟩ ≠ [] := by
    have := PyProof.Rows.split_pos x ⟨#[c]⟩
    intro z
    rw [z] at this
    cases this
  have h4 : jl c ((Txt.split x ⟨#[c]⟩).map cl) = jl c (ws.map cl) := by rw [← join_cl, h1, h]
  refine map_cl_inj (jl_inj (by simpa using h3) (by simpa using hne) (fun p hp => ?_) (fun q hq => ?_) h4)
  · obtain ⟨w, hw, rfl⟩ := List.mem_map.mp hp
    exact h2 w hw
  · obtain ⟨w, hw, rfl⟩ := List.mem_map.mp hq
    exact hf w hw
theorem mem_jl {c d : Nat} : ∀ {ps : List (List Nat)}, d ∈ jl c ps → d = c ∨ ∃ p ∈ ps, d ∈ p
  | [], h => by cases h
  | [x], h => .inr ⟨x, List.mem_cons_self, h⟩
  | x :: y :: r, h => by
    have h' : d ∈ x ++ c :: jl c (y :: r) := h
    rcases List.mem_append.mp h' with z | z
    · exact .inr ⟨x, List.mem_cons_self, z⟩
    · rcases List.mem_cons.mp z with z | z
      · exact .inl z
      · rcases mem_jl z with z | ⟨p, hp, hd⟩
        · exact .inl z
        · exact .inr ⟨p, List.mem_cons_of_mem _ hp, hd⟩
theorem jl_mem {c d : Nat} : ∀ {ps : List (List Nat)} {p : List Nat}, p ∈ ps → d ∈ p → d ∈ jl c ps
  | [x], p, hp, hd => by
    have e : p = x := by simpa using hp
    rw [e] at hd
    exact hd
  | x :: y :: r, p, hp, hd => by
    show d ∈ x ++ c :: jl c (y :: r)
    rcases List.mem_cons.mp hp with e | e
    · rw [e] at hd
      exact List.mem_append_left _ hd
    · exact List.mem_append_right _ (List.mem_cons_of_mem _ (jl_mem e hd))
/-- the pieces' signs are the text's -/
theorem split_chars {c : Nat} {x w : Str} (h : w ∈ Txt.split x ⟨#[c]⟩) : ∀ d ∈ cl w, d ∈ cl x := fun d hd => by
  have h1 : Str.join ⟨#[c]⟩ (Txt.split x ⟨#[c]⟩) = x := StrLaws.join_split x ⟨#[c]⟩
  rw [← h1, join_cl]
  exact jl_mem (List.mem_map_of_mem h) hd
theorem great : ∃ g g2 g3 g4 g5 e : Int, 0 < g5 ∧ oPow (.int 10) (.int 64) = some (.int g, .int 10, .int 64) ∧ oMul (.int g) (.int g) = some (.int g2, .int g, .int g) ∧ oMul (.int g2) (.int g) = some (.int g3, .int g2, .int g) ∧
    oMul (.int g3) (.int g) = some (.int g4, .int g3, .int g) ∧ oMul (.int g4) (.int g) = some (.int g5, .int g4, .int g) ∧ oPow (.int 10) (.int 18) = some (.int e, .int 10, .int 18) :=
  ⟨10 ^ 64, 10 ^ 128, 10 ^ 192, 10 ^ 256, 10 ^ 320, 10 ^ 18, by decide +kernel, by rfl,
    oMul_ii (by decide +kernel), oMul_ii (by decide +kernel), oMul_ii (by decide +kernel), oMul_ii (by decide +kernel), by rfl⟩
theorem cut_map {α β : Type} (f : α → β) (xs : List α) (l u : Option Int) : cutL (xs.map f) l u = (cutL xs l u).map f := by
  unfold cutL
  rw [List.length_map, ← List.map_drop, ← List.map_take]
theorem intsOf_map (ns : List Int) : intsOf (ns.map V.int) = some (ns.map D.int) := by
  induction ns with
  | nil => rfl
  | cons n ns ih => simp [intsOf, ih]
theorem atI_map {ns : List Int} (h : 0 < ns.length) : ∃ n, atI (ns.map V.int) 0 = some (.int n) := by
  cases ns with
  | nil => simp at h
  | cons n ns => exact ⟨n, by unfold atI ixN; simp⟩
theorem fold_loop {vs : List V} : ∀ (l : List Int) (f : Int) (x : Option D), ∃ f' x', loopM (stv 3)
    (asgM (ev2 (.tmp (ev2 (.tmp (ev2 (.tmp (ev2 (.slot 2) (.tmp (pure (.int 1000003))) oMul)) (.tmp (ev1 (.slot 3) oInt)) oPlus)) (.tmp (pure (.int 12289))) oPlus)) (.tmp (pure (.int 2305843009213693951))) oMod) (stv 2)) (l.map D.int)
    [some (.seq vs), some (.int 0), some (.int f), x, none, none, none] = .ok .nx [some (.seq vs), some (.int 0), some (.int f'), x', none, none, none]
  | [], f, x => ⟨f, x, rfl⟩
  | n :: l, f, x => by
    obtain ⟨f', x', e⟩ := fold_loop (vs := vs) l ((f * 1000003 + n + 12289) % 2305843009213693951) (some (.int n))
    have m1 : oMul (.int f) (.int 1000003) = some (.int (f * 1000003), .int f, .int 1000003) := oMul_ii (by simp [mulB])
    have n1 : ∀ i, oMod (.int i) (.int 2305843009213693951) = some (.int (i % 2305843009213693951), .int i, .int 2305843009213693951) := fun i => oMod_ii (by decide)
    refine ⟨f', x', ?_⟩
    rw [List.map_cons, loopM_cons]
    simp [m1, n1]
    exact e
theorem fzL_ints (l : List Int) : fzL (l.map D.int) = l.map D.int := by
  rw [fzL_map, List.map_map]
  rfl
theorem source_ok (ns : List Int) : ∃ s, IsS s ∧ m__law_source [.seq (ns.map V.int), .int 0] = .ok s [.non, .non] := by
  obtain ⟨g, g2, g3, g4, g5, e18, h5, p1, q1, q2, q3, q4, p2⟩ := great
  obtain ⟨f, x, ef⟩ := fold_loop (vs := ns.map V.int) (cutL ns none (some 63)) 0 none
  have m5 : ∀ i, oMod (.int i) (.int g5) = some (.int (i % g5), .int i, .int g5) := fun i => oMod_ii h5
  have hs : oSl (.seq (ns.map V.int)) none (some 63) = some (.lst true ((cutL ns none (some 63)).map D.int), .seq (ns.map V.int)) := by
    unfold oSl
    simp only [cut_map, intsOf_map]
  have key : ∃ c : Int, asgM (ifV (asB (ev2 (.slot 1) (.tmp (ev1 (.slot 0) oLen)) oLt)) (ev1 (.tmp (ev2 (.slot 0) (.slot 1) oIx)) oInt) (pure (.int 0))) (stv 4)
      [some (.seq (ns.map V.int)), some (.int 0), some (.int f), x, none, none, none] = .ok .nx [some (.seq (ns.map V.int)), some (.int 0), some (.int f), x, some (.int c), none, none] := by
    by_cases h : 0 < ns.length
    · obtain ⟨n, en⟩ := atI_map h
      have ei : oIx (.seq (ns.map V.int)) (.int 0) = some (.int n, .seq (ns.map V.int), .int 0) := by
        unfold oIx
        simp only [en]
      have h' : ns ≠ [] := by intro z; subst z; simp at h
      exact ⟨n, by simp [h', ei, List.length_pos_iff]⟩
    · have h' : ns = [] := by
        cases ns with
        | nil => rfl
        | cons _ _ => simp at h
      subst h'
      exact ⟨0, by simp⟩
  obtain ⟨c, ec⟩ := key
  have key2 : ∃ o : Int, asgM (ifV (asB (ev2 (.slot 4) (.tmp (ev2 (.tmp (pure (.int 10))) (.tmp (pure (.int 18))) oPow)) oGe)) (rdv 4) (pure (.int 0))) (stv 6)
      [some (.seq (ns.map V.int)), some (.int 0), some (.int f), x, some (.int (c % g5)), some (.int g), none] = .ok .nx [some (.seq (ns.map V.int)), some (.int 0), some (.int f), x, some (.int (c % g5)), some (.int g), some (.int o)] := by
    by_cases h : e18 ≤ c % g5
    · exact ⟨c % g5, by simp [p2, h]⟩
    · exact ⟨0, by simp [p2, h]⟩
  obtain ⟨o, eo⟩ := key2
  have m1 : oMul (.int 911) (.int 0) = some (.int 0, .int 911, .int 0) := oMul_ii (by decide +kernel)
  have m2 : oMul (.int 5077) (.int 0) = some (.int 0, .int 5077, .int 0) := oMul_ii (by decide +kernel)
  have n1 : ∀ i, oMod (.int i) (.int 2147483647) = some (.int (i % 2147483647), .int i, .int 2147483647) := fun i => oMod_ii (by decide)
  have n2 : ∀ i, oMod (.int i) (.int 2147483629) = some (.int (i % 2147483629), .int i, .int 2147483629) := fun i => oMod_ii (by decide)
  have n3 : ∀ i, oDiv (.int i) (.int 2147483647) = some (.int (i / 2147483647), .int i, .int 2147483647) := fun i => oDiv_ii (by decide) (by decide +kernel)
  refine ⟨S4 o ((f + 0 + 7) % 2147483647) ((f / 2147483647 + 0 + 3) % 2147483629) 0, ⟨_, _, _, _, rfl⟩, def_rt (ρ' := [some (.seq (ns.map V.int)), some (.int 0), some (.int f), x, some (.int (c % g5)), some (.int g), none]) ?_ (by simp [outsOf]) rfl (by simp)⟩
  unfold g__law_source
  refine seq_step (ρ1 := [some (.seq (ns.map V.int)), some (.int 0), some (.int 0), none, none, none, none]) (by simp [Mir.envOf]) ?_
  refine seq_step (ρ1 := [some (.seq (ns.map V.int)), some (.int 0), some (.int f), x, none, none, none]) (by simp [hs, fzL_ints]; exact ef) ?_
  refine seq_step ec ?_
  refine seq_step (ρ1 := [some (.seq (ns.map V.int)), some (.int 0), some (.int f), x, some (.int c), some (.int g), none]) (by simp [p1]) ?_
  refine seq_step (ρ1 := [some (.seq (ns.map V.int)), some (.int 0), some (.int f), x, some (.int (c % g5)), some (.int g), none]) (by simp [q1, q2, q3, q4, m5]) ?_
  refine seq_step eo ?_
  simp [m1, m2, n1, n2, n3, sizeL]
section
variable {ρ : Mir.Env}
@[simp] theorem callE2_app {f : List D → FRes} {i j i' j' : Nat} : callE2 f i j i' j' ρ = (peek i ρ).bnd fun a ρ1 => (peek j ρ1).bnd fun n ρ2 => (peek i' ρ2).bnd fun b ρ3 => (peek j' ρ3).bnd fun n' ρ4 =>
    if i = i' then .bad else match eltK a n, eltK b n' with
    | some (k, d), some (k', d') => (match f [d, d'] with
      | .ok r [o, o'] => .ok r ((ρ4.set i (some (putE a k o))).set i' (some (putE b k' o')))
      | _ => .bad)
    | _, _ => .bad := by
  unfold callE2
  rw [bind_app]
  refine bnd_congr fun a ρ1 => ?_
  rw [bind_app]
  refine bnd_congr fun n ρ2 => ?_
  rw [bind_app]
  refine bnd_congr fun b ρ3 => ?_
  rw [bind_app]
  refine bnd_congr fun n' ρ4 => ?_
  split
  · rfl
  · cases e1 : eltK a n with
    | none => rfl
    | some kd =>
      obtain ⟨k, d⟩ := kd
      cases e2 : eltK b n' with
      | none => rfl
      | some kd' =>
        obtain ⟨k', d'⟩ := kd'
        simp only []
        cases e3 : f [d, d'] with
        | ok r os => match os with
          | [] => rfl
          | [_] => rfl
          | [_, _] => rfl
          | _ :: _ :: _ :: _ => rfl
        | err _ => rfl
        | bad => rfl
end
theorem isi_str {x : Str} : oIsi "str" (.str x) = some (.bl true, .str x) := rfl
theorem isi_int {i : Int} : oIsi "str" (.int i) = some (.bl false, .int i) ∧ oIsi "int" (.int i) = some (.bl true, .int i) ∧ oIsi "bool" (.int i) = some (.bl false, .int i) := ⟨rfl, rfl, rfl⟩
theorem isi_lst {o : Bool} {xs : List D} : oIsi "str" (.lst o xs) = some (.bl false, .lst o xs) ∧ oIsi "int" (.lst o xs) = some (.bl false, .lst o xs) ∧ oIsi "dict" (.lst o xs) = some (.bl false, .lst o xs) ∧
    oIsi "tuple" (.lst o xs) = some (.bl false, .lst o xs) ∧ oIsi "list" (.lst o xs) = some (.bl true, .lst o xs) := ⟨rfl, rfl, rfl, rfl, rfl⟩
theorem isi_tup {xs : List D} : oIsi "str" (.tup xs) = some (.bl false, .tup xs) ∧ oIsi "int" (.tup xs) = some (.bl false, .tup xs) ∧ oIsi "dict" (.tup xs) = some (.bl false, .tup xs) ∧
    oIsi "tuple" (.tup xs) = some (.bl true, .tup xs) ∧ oIsi "list" (.tup xs) = some (.bl false, .tup xs) := ⟨rfl, rfl, rfl, rfl, rfl⟩
theorem same_str {n : Nat} {x : Str} (h : cpOk x = true) : m__law_same (n + 1) [.str x, .str x] = .ok (.bl true) [.str x, .str x] := by
  have e := oEq_ss h h
  refine def_rt (ρ' := [some (.str x), some (.str x), none, none]) ?_ (by simp [outsOf]) rfl (by simp)
  unfold b__law_same
  simp [Mir.envOf, isi_str, e]
theorem same_int {n : Nat} {i : Int} : m__law_same (n + 1) [.int i, .int i] = .ok (.bl true) [.int i, .int i] := by
  refine def_rt (ρ' := [some (.int i), some (.int i), none, none]) ?_ (by simp [outsOf]) rfl (by simp)
  unfold b__law_same
  simp [Mir.envOf, isi_int]
theorem bools_true {ys : List D} (h : ∀ y ∈ ys, y = .bl true) : boolsOf ys = some (ys.map fun _ => true) := by
  induction ys with
  | nil => rfl
  | cons y ys ih =>
    have e := h y List.mem_cons_self
    subst e
    show (boolsOf ys).map (true :: ·) = _
    rw [ih fun y hy => h y (List.mem_cons_of_mem _ hy)]
    rfl
theorem all_true {ys : List D} (h : ∀ y ∈ ys, y = .bl true) : oAll (.lst true ys) = some (.bl true, .lst true ys) := by
  have e : (ys.map fun _ => true).all id = true := by simp
  show (match boolsOf ys with
    | some bs => some (D.bl (bs.all id), D.lst true ys)
    | none => none) = _
  rw [bools_true h]
  simp only [e]
theorem ixN_nat {n k : Nat} (h : k < n) : ixN n (0 + (k : Int)) = some k := by unfold ixN; simp; omega
theorem set_same {xs : List D} {k : Nat} {d : D} (h : xs[k]? = some d) : xs.set k d = xs := by
  refine List.ext_getElem? fun i => ?_
  by_cases q : k = i
  · subst q
    rw [List.getElem?_set_self (ltE h), h]
  · rw [List.getElem?_set_ne q]
/-- rows of one kind -/
inductive Rw : D → List D → Prop
  | l {o : Bool} {xs : List D} : Rw (.lst o xs) xs
  | t {xs : List D} : Rw (.tup xs) xs
theorem Rw.elt {a : D} {xs : List D} {k : Nat} {d : D} (h : Rw a xs) (e : xs[k]? = some d) : eltK a (.int (0 + (k : Int))) = some (k, d) ∧ putE a k d = a := by
  cases h with
  | l =>
    rename_i o
    refine ⟨?_, ?_⟩
    · simp only [eltK, ixN_nat (ltE e), e]
    · cases o
      · rfl
      · show D.lst true (xs.set k d) = _
        rw [set_same e]
  | t =>
    refine ⟨?_, ?_⟩
    · simp only [eltK, ixN_nat (ltE e), e]
    · show D.tup (xs.set k d) = _
      rw [set_same e]
theorem same_loop {f : List D → FRes} {a b : D} {xs ys : List D} {m : Int} (hm : m.toNat = ys.length) (m0 : 0 ≤ m) (ha : Rw a xs) (hb : Rw b ys) (hl : xs.length = ys.length) (hz : ys.length ≤ 1000000) (hlb : oLen b = some (.int m, b)) (hxa : isx b = false)
    (h : ∀ (k : Nat) (x y : D), xs[k]? = some x → ys[k]? = some y → f [x, y] = .ok (.bl true) [x, y]) :
    ev1 (.tmp (lcR1 [3] (consM (ev1 (.slot 1) oLen) (pure [])) (stv 3) (pure true) (callE2 f 0 3 1 3))) oAll [some a, some b, none, none] = .ok (.bl true) [some a, some b, none, none] := by
  obtain ⟨zs, ρ2, e, eρ, hF⟩ := compM_run (vs := [3]) (tg := stv 3) (elt := callE2 f 0 3 1 3) (I := fun ρ => ρ = [some a, some b, none, none])
    (P := fun _ y => y = .bl true) (fun ρ e => by subst e; rfl) (rangeD 0 ys.length) [] [some a, some b, none, none] (fun d hd ρ e => by
      subst e
      unfold rangeD at hd
      obtain ⟨k, hk, rfl⟩ := List.mem_map.mp hd
      have hk' : k < ys.length := List.mem_range.mp hk
      obtain ⟨x, hx⟩ : ∃ x, xs[k]? = some x := ⟨_, List.getElem?_eq_getElem (by omega)⟩
      obtain ⟨y, hy⟩ : ∃ y, ys[k]? = some y := ⟨_, List.getElem?_eq_getElem hk'⟩
      have e1 := ha.elt hx
      have e2 := hb.elt hy
      have e3 := h k x y hx hy
      refine ⟨[some a, some b, none, some (.int (0 + (k : Int)))], .bl true, [some a, some b, none, some (.int (0 + (k : Int)))], by simp, ?_, rfl, rfl⟩
      rw [callE2_app]
      simp only [peek_def, List.getElem?_cons_zero, List.getElem?_cons_succ, bnd_ok, e1.1, e2.1, e3, e1.2, e2.2, List.set_cons_zero, List.set_cons_succ, show ¬ (0 : Nat) = 1 from by decide, if_false]) rfl (by rw [rangeD_len, sizeL]; simp; omega)
  subst eρ
  rw [List.nil_append] at e
  have hi : Mir.inR m = true := inR_of (by omega) (by omega)
  have ea := all_true (forall2_right hF)
  have e0 : consM (ev1 (.slot 1) oLen) (pure []) [some a, some b, none, none] = .ok [.int m] [some a, some b, none, none] := by simp [hlb, hxa]
  have q1 : lcR1 [3] (consM (ev1 (.slot 1) oLen) (pure [])) (stv 3) (pure true) (callE2 f 0 3 1 3) [some a, some b, none, none] = .ok (.lst true zs) [some a, some b, none, none] := by
    rw [lcR1_app, e0, bnd_ok]
    show (if Mir.inR m = true then lcR [3] 0 m.toNat (stv 3) (pure true) (callE2 f 0 3 1 3) [some a, some b, none, none] else .bad) = _
    rw [if_pos hi, lcR_app, hm]
    show (noX (compM [3] (stv 3) (pure true) (callE2 f 0 3 1 3) (rangeD 0 ys.length) []) [some a, some b, none, none]).bnd _ = _
    rw [e, bnd_ok]
  rw [ev1_tmp, q1, bnd_ok, ea]
theorem ret_and {f g : M D} {ρ ρ1 ρ2 : Mir.Env} {d : D} (h : f ρ = .ok (.bl true) ρ1) (k : g ρ1 = .ok d ρ2) : retM (andV f g) ρ = .ok (.rt d) ρ2 := by
  rw [retM_app, andV_app, asB_app, h]
  simp [k]
theorem same_lst {n : Nat} {o o' : Bool} {xs ys : List D} (hl : xs.length = ys.length) (hz : ys.length ≤ 1000000) (h : ∀ (k : Nat) (x y : D), xs[k]? = some x → ys[k]? = some y → m__law_same n [x, y] = .ok (.bl true) [x, y]) :
    m__law_same (n + 1) [.lst o xs, .lst o' ys] = .ok (.bl true) [.lst o xs, .lst o' ys] := by
  refine def_rt (ρ' := [some (.lst o xs), some (.lst o' ys), none, none]) ?_ (by simp [outsOf]) rfl (by simp)
  have e := same_loop (m := (ys.length : Nat)) (f := m__law_same n) (a := .lst o xs) (b := .lst o' ys) (by omega) (by omega) .l .l hl hz rfl rfl h
  unfold b__law_same
  refine seq_step (ρ1 := [some (.lst o xs), some (.lst o' ys), none, none]) (by simp [Mir.envOf, isi_lst]) ?_
  refine seq_step (ρ1 := [some (.lst o xs), some (.lst o' ys), none, none]) (by simp [Mir.envOf, isi_lst]) ?_
  refine seq_step (ρ1 := [some (.lst o xs), some (.lst o' ys), none, none]) (by simp [Mir.envOf, isi_lst]) ?_
  refine seq_step (ρ1 := [some (.lst o xs), some (.lst o' ys), none, none]) (by simp [Mir.envOf, isi_lst]) ?_
  refine seq_step (ρ1 := [some (.lst o xs), some (.lst o' ys), none, none]) (by simp [isi_lst]) ?_
  exact ret_and (ρ1 := [some (.lst o xs), some (.lst o' ys), none, none]) (by simp [hl]) e
theorem same_tup {n : Nat} {xs ys : List D} (hl : xs.length = ys.length) (hz : ys.length ≤ 1000000) (h : ∀ (k : Nat) (x y : D), xs[k]? = some x → ys[k]? = some y → m__law_same n [x, y] = .ok (.bl true) [x, y]) :
    m__law_same (n + 1) [.tup xs, .tup ys] = .ok (.bl true) [.tup xs, .tup ys] := by
  refine def_rt (ρ' := [some (.tup xs), some (.tup ys), none, none]) ?_ (by simp [outsOf]) rfl (by simp)
  have e := same_loop (m := (ys.length : Nat)) (f := m__law_same n) (a := .tup xs) (b := .tup ys) (by omega) (by omega) .t .t hl hz rfl rfl h
  unfold b__law_same
  refine seq_step (ρ1 := [some (.tup xs), some (.tup ys), none, none]) (by simp [Mir.envOf, isi_tup]) ?_
  refine seq_step (ρ1 := [some (.tup xs), some (.tup ys), none, none]) (by simp [Mir.envOf, isi_tup]) ?_
  refine seq_step (ρ1 := [some (.tup xs), some (.tup ys), none, none]) (by simp [Mir.envOf, isi_tup]) ?_
  refine seq_step (ρ1 := [some (.tup xs), some (.tup ys), none, none]) (by simp [Mir.envOf, isi_tup]) ?_
  refine seq_step (ρ1 := [some (.tup xs), some (.tup ys), none, none]) (by simp [isi_tup]) ?_
  exact ret_and (ρ1 := [some (.tup xs), some (.tup ys), none, none]) (by simp [hl]) e
end MS
end
section
set_option Elab.async false
set_option linter.all false
set_option maxRecDepth 100000
set_option maxHeartbeats 4000000
namespace K01
open PySem PySem.Spec PyProof.Rows L2 Mir
def topS (i : Nat) : Stmt := PySem.Challenge.pw_fourbells_k01_fields_read.main.body.getD i (.Pass ⟨0, 0, 0, 0⟩)
def v_FIGURES : Str := (PySem.Str.ofString "0123456789")
def et0 : ETab := [("TooMany", ["what"]), ("BadNet", ["what", "number"]), ("BadLots", ["what", "row"]), ("BadWant", ["what", "place"]), ("BadOutage", ["row"]), ("BadStanding", ["valve"]), ("Unsafe", ["word"]), ("BadTask", ["what"]), ("BadAsk", ["ask"]), ("BadPlan", ["bell"]), ("BadLook", ["row"]), ("BadCourse", ["act"]), ("BadText", ["line"]), ("BadDeed", ["what"])]
abbrev clsOf (K : PySem.W.Frag) : Str → Option Addr := clsE et0 K
theorem cls_TooMany (K : PySem.W.Frag) : clsOf K "TooMany" = some (He.ga K "TooMany") := by show clsE et0 K _ = _; unfold clsE; rw [if_pos (by decide)]
theorem cls_BadNet (K : PySem.W.Frag) : clsOf K "BadNet" = some (He.ga K "BadNet") := by show clsE et0 K _ = _; unfold clsE; rw [if_pos (by decide)]
theorem cls_BadLots (K : PySem.W.Frag) : clsOf K "BadLots" = some (He.ga K "BadLots") := by show clsE et0 K _ = _; unfold clsE; rw [if_pos (by decide)]
theorem cls_BadWant (K : PySem.W.Frag) : clsOf K "BadWant" = some (He.ga K "BadWant") := by show clsE et0 K _ = _; unfold clsE; rw [if_pos (by decide)]
theorem cls_BadOutage (K : PySem.W.Frag) : clsOf K "BadOutage" = some (He.ga K "BadOutage") := by show clsE et0 K _ = _; unfold clsE; rw [if_pos (by decide)]
theorem cls_BadStanding (K : PySem.W.Frag) : clsOf K "BadStanding" = some (He.ga K "BadStanding") := by show clsE et0 K _ = _; unfold clsE; rw [if_pos (by decide)]
theorem cls_Unsafe (K : PySem.W.Frag) : clsOf K "Unsafe" = some (He.ga K "Unsafe") := by show clsE et0 K _ = _; unfold clsE; rw [if_pos (by decide)]
theorem cls_BadTask (K : PySem.W.Frag) : clsOf K "BadTask" = some (He.ga K "BadTask") := by show clsE et0 K _ = _; unfold clsE; rw [if_pos (by decide)]
theorem cls_BadAsk (K : PySem.W.Frag) : clsOf K "BadAsk" = some (He.ga K "BadAsk") := by show clsE et0 K _ = _; unfold clsE; rw [if_pos (by decide)]
theorem cls_BadPlan (K : PySem.W.Frag) : clsOf K "BadPlan" = some (He.ga K "BadPlan") := by show clsE et0 K _ = _; unfold clsE; rw [if_pos (by decide)]
theorem cls_BadLook (K : PySem.W.Frag) : clsOf K "BadLook" = some (He.ga K "BadLook") := by show clsE et0 K _ = _; unfold clsE; rw [if_pos (by decide)]
theorem cls_BadCourse (K : PySem.W.Frag) : clsOf K "BadCourse" = some (He.ga K "BadCourse") := by show clsE et0 K _ = _; unfold clsE; rw [if_pos (by decide)]
theorem cls_BadText (K : PySem.W.Frag) : clsOf K "BadText" = some (He.ga K "BadText") := by show clsE et0 K _ = _; unfold clsE; rw [if_pos (by decide)]
theorem cls_BadDeed (K : PySem.W.Frag) : clsOf K "BadDeed" = some (He.ga K "BadDeed") := by show clsE et0 K _ = _; unfold clsE; rw [if_pos (by decide)]
def ans_BadAsk (nm : Str) : Bool := nm == "BadAsk"
def tbl_BadAsk (nm : Str) : Option Bool := if (et0.any fun p => p.1 == nm) = true then some (ans_BadAsk nm) else none
def ans_BadCourse (nm : Str) : Bool := nm == "BadCourse"
def tbl_BadCourse (nm : Str) : Option Bool := if (et0.any fun p => p.1 == nm) = true then some (ans_BadCourse nm) else none
def ans_BadDeed (nm : Str) : Bool := nm == "BadDeed"
def tbl_BadDeed (nm : Str) : Option Bool := if (et0.any fun p => p.1 == nm) = true then some (ans_BadDeed nm) else none
def ans_BadLook (nm : Str) : Bool := nm == "BadLook"
def tbl_BadLook (nm : Str) : Option Bool := if (et0.any fun p => p.1 == nm) = true then some (ans_BadLook nm) else none
def ans_BadLots (nm : Str) : Bool := nm == "BadLots"
def tbl_BadLots (nm : Str) : Option Bool := if (et0.any fun p => p.1 == nm) = true then some (ans_BadLots nm) else none
def ans_BadNet (nm : Str) : Bool := nm == "BadNet"
def tbl_BadNet (nm : Str) : Option Bool := if (et0.any fun p => p.1 == nm) = true then some (ans_BadNet nm) else none
def ans_BadOutage (nm : Str) : Bool := nm == "BadOutage"
def tbl_BadOutage (nm : Str) : Option Bool := if (et0.any fun p => p.1 == nm) = true then some (ans_BadOutage nm) else none
def ans_BadPlan (nm : Str) : Bool := nm == "BadPlan"
def tbl_BadPlan (nm : Str) : Option Bool := if (et0.any fun p => p.1 == nm) = true then some (ans_BadPlan nm) else none
def ans_BadStanding (nm : Str) : Bool := nm == "BadStanding"
def tbl_BadStanding (nm : Str) : Option Bool := if (et0.any fun p => p.1 == nm) = true then some (ans_BadStanding nm) else none
def ans_BadTask (nm : Str) : Bool := nm == "BadTask"
def tbl_BadTask (nm : Str) : Option Bool := if (et0.any fun p => p.1 == nm) = true then some (ans_BadTask nm) else none
def ans_BadText (nm : Str) : Bool := nm == "BadText"
def tbl_BadText (nm : Str) : Option Bool := if (et0.any fun p => p.1 == nm) = true then some (ans_BadText nm) else none
def ans_BadWant (nm : Str) : Bool := nm == "BadWant"
def tbl_BadWant (nm : Str) : Option Bool := if (et0.any fun p => p.1 == nm) = true then some (ans_BadWant nm) else none
def ans_TooMany (nm : Str) : Bool := nm == "TooMany"
def tbl_TooMany (nm : Str) : Option Bool := if (et0.any fun p => p.1 == nm) = true then some (ans_TooMany nm) else none
def ans_Unsafe (nm : Str) : Bool := nm == "Unsafe"
def tbl_Unsafe (nm : Str) : Option Bool := if (et0.any fun p => p.1 == nm) = true then some (ans_Unsafe nm) else none
def ans_WorksError (_ : Str) : Bool := true
def tbl_WorksError (nm : Str) : Option Bool := if (et0.any fun p => p.1 == nm) = true then some (ans_WorksError nm) else none
/-- what the top has written -/
structure Txt (P : Program) (K : PySem.W.Frag) (mg : Str → Option Value) : Prop where
  l_is_number : Lk K mg "is_number" (topS 19) ["word"]
  l_read_number : Lk K mg "read_number" (topS 20) ["word", "line"]
  l_read_signed : Lk K mg "read_signed" (topS 21) ["word", "line"]
  l_ascending : Lk K mg "ascending" (topS 22) ["numbers"]
  l_read_set : Lk K mg "read_set" (topS 23) ["word", "line"]
  l_read_pairs : Lk K mg "read_pairs" (topS 24) ["word", "line"]
  l_read_row : Lk K mg "read_row" (topS 25) ["word", "line"]
  l__law_source : Lk K mg "_law_source" (topS 27) ["script", "at"]
  l__law_pick : Lk K mg "_law_pick" (topS 28) ["s", "many"]
  l__law_one : Lk K mg "_law_one" (topS 29) ["s", "things"]
  l__law_same : Lk K mg "_law_same" (topS 30) ["answer", "due"]
  l__law_fault : Lk K mg "_law_fault" (topS 31) ["error"]
  l__law_a_read : Lk K mg "_law_a_read" (topS 32) ["kind", "word", "line"]
  l__law_a_big : Lk K mg "_law_a_big" (topS 33) ["s"]
  l__law_a_rising : Lk K mg "_law_a_rising" (topS 34) ["s", "many"]
  l__law_a_right : Lk K mg "_law_a_right" (topS 35) ["s", "kind"]
  l__law_a_nearly : Lk K mg "_law_a_nearly" (topS 36) ["s", "kind"]
  l_law : Lk K mg "law" (topS 37) ["script"]
  n_all : mg "all" = none
  n_bool : mg "bool" = none
  n_dict : mg "dict" = none
  n_int : mg "int" = none
  n_isinstance : mg "isinstance" = none
  n_len : mg "len" = none
  n_list : mg "list" = none
  n_range : mg "range" = none
  n_sorted : mg "sorted" = none
  n_str : mg "str" = none
  n_tuple : mg "tuple" = none
  c_FIGURES : ∃ t, mg "FIGURES" = some (.str v_FIGURES t)
  c_MOST_FIGURES : ∃ t, mg "MOST_FIGURES" = some (.int 40 t)
  et : ETxt K (clsOf K) et0
  e_BadText : MirE.ErrTxt P K mg "BadText" ["line"] false (PySem.Str.ofString "bad text") (He.ga K "BadText") (He.ma K (He.ga K "BadText") "__init__")
  g_BadAsk : mg "BadAsk" = some (.ref (He.ga K "BadAsk"))
  g_BadCourse : mg "BadCourse" = some (.ref (He.ga K "BadCourse"))
  g_BadDeed : mg "BadDeed" = some (.ref (He.ga K "BadDeed"))
  g_BadLook : mg "BadLook" = some (.ref (He.ga K "BadLook"))
  g_BadLots : mg "BadLots" = some (.ref (He.ga K "BadLots"))
  g_BadNet : mg "BadNet" = some (.ref (He.ga K "BadNet"))
  g_BadOutage : mg "BadOutage" = some (.ref (He.ga K "BadOutage"))
  g_BadPlan : mg "BadPlan" = some (.ref (He.ga K "BadPlan"))
  g_BadStanding : mg "BadStanding" = some (.ref (He.ga K "BadStanding"))
  g_BadTask : mg "BadTask" = some (.ref (He.ga K "BadTask"))
  g_BadText : mg "BadText" = some (.ref (He.ga K "BadText"))
  g_BadWant : mg "BadWant" = some (.ref (He.ga K "BadWant"))
  g_TooMany : mg "TooMany" = some (.ref (He.ga K "TooMany"))
  g_Unsafe : mg "Unsafe" = some (.ref (He.ga K "Unsafe"))
  g_WorksError : mg "WorksError" = some (.ref (He.ga K "WorksError"))
  k_BadAsk : ∀ p ∈ et0, ∀ A, clsOf K p.1 = some A → PySem.W.kitOne K (.ref A) (.ref (He.ga K "BadAsk")) = some (ans_BadAsk p.1)
  k_BadCourse : ∀ p ∈ et0, ∀ A, clsOf K p.1 = some A → PySem.W.kitOne K (.ref A) (.ref (He.ga K "BadCourse")) = some (ans_BadCourse p.1)
  k_BadDeed : ∀ p ∈ et0, ∀ A, clsOf K p.1 = some A → PySem.W.kitOne K (.ref A) (.ref (He.ga K "BadDeed")) = some (ans_BadDeed p.1)
  k_BadLook : ∀ p ∈ et0, ∀ A, clsOf K p.1 = some A → PySem.W.kitOne K (.ref A) (.ref (He.ga K "BadLook")) = some (ans_BadLook p.1)
  k_BadLots : ∀ p ∈ et0, ∀ A, clsOf K p.1 = some A → PySem.W.kitOne K (.ref A) (.ref (He.ga K "BadLots")) = some (ans_BadLots p.1)
  k_BadNet : ∀ p ∈ et0, ∀ A, clsOf K p.1 = some A → PySem.W.kitOne K (.ref A) (.ref (He.ga K "BadNet")) = some (ans_BadNet p.1)
  k_BadOutage : ∀ p ∈ et0, ∀ A, clsOf K p.1 = some A → PySem.W.kitOne K (.ref A) (.ref (He.ga K "BadOutage")) = some (ans_BadOutage p.1)
  k_BadPlan : ∀ p ∈ et0, ∀ A, clsOf K p.1 = some A → PySem.W.kitOne K (.ref A) (.ref (He.ga K "BadPlan")) = some (ans_BadPlan p.1)
  k_BadStanding : ∀ p ∈ et0, ∀ A, clsOf K p.1 = some A → PySem.W.kitOne K (.ref A) (.ref (He.ga K "BadStanding")) = some (ans_BadStanding p.1)
  k_BadTask : ∀ p ∈ et0, ∀ A, clsOf K p.1 = some A → PySem.W.kitOne K (.ref A) (.ref (He.ga K "BadTask")) = some (ans_BadTask p.1)
  k_BadText : ∀ p ∈ et0, ∀ A, clsOf K p.1 = some A → PySem.W.kitOne K (.ref A) (.ref (He.ga K "BadText")) = some (ans_BadText p.1)
  k_BadWant : ∀ p ∈ et0, ∀ A, clsOf K p.1 = some A → PySem.W.kitOne K (.ref A) (.ref (He.ga K "BadWant")) = some (ans_BadWant p.1)
  k_TooMany : ∀ p ∈ et0, ∀ A, clsOf K p.1 = some A → PySem.W.kitOne K (.ref A) (.ref (He.ga K "TooMany")) = some (ans_TooMany p.1)
  k_Unsafe : ∀ p ∈ et0, ∀ A, clsOf K p.1 = some A → PySem.W.kitOne K (.ref A) (.ref (He.ga K "Unsafe")) = some (ans_Unsafe p.1)
  k_WorksError : ∀ p ∈ et0, ∀ A, clsOf K p.1 = some A → PySem.W.kitOne K (.ref A) (.ref (He.ga K "WorksError")) = some (ans_WorksError p.1)
  x_WorksError : ∀ nm A b, clsOf K nm = some A → tbl_WorksError nm = some b → PySem.W.exmOne K (.ref A) (.ref (He.ga K "WorksError")) = some b
section
variable {P : Program} {w : World} {K : PySem.W.Frag} {mg : Str → Option Value} {base : Heap}
abbrev cnOf (K : PySem.W.Frag) : Cn := ⟨⟨K, clsOf K⟩, [], none⟩

abbrev s_is_number : Stmt := topS 19
theorem sc_is_number : FnScope ["word", "sign"] ["word"] (defScope s_is_number) := ⟨rfl, rfl, rfl, by decide +kernel, rfl, by decide +kernel, by decide +kernel⟩
def g_is_number : M Flw :=
    (seqM (ifM (orT (asB (ev2 (.slot 0) (.tmp (pure (.str (PySem.Str.ofString "")))) oEq)) (asB (ev2 (.tmp (ev1 (.slot 0) oLen)) (.tmp (pure (.int 40))) oGt)))
    (retM (pure (.bl false)))
    (pure .nx))
    (seqM (forS (rdv 0) (stv 1)
    (ifM (asB (ev2 (.slot 1) (.tmp (pure (.str v_FIGURES))) (oInS true)))
    (retM (pure (.bl false)))
    (pure .nx)))
    (retM (orV (ev2 (.slot 0) (.tmp (pure (.str (PySem.Str.ofString "0")))) oEq) (ev2 (.tmp (ev2 (.slot 0) (.tmp (pure (.int 0))) oIx)) (.tmp (pure (.str (PySem.Str.ofString "0")))) oNe)))))
def m_is_number : List D → FRes := defF 2 [false] g_is_number
theorem ok_is_number (T : Txt P K mg) : DefAt P w K mg base 1 "is_number" ["word"] (spF (cnOf K) [false] m_is_number) := by
  refine def_mk (k := 0) T.l_is_number sc_is_number rfl fun f cdv A outer s H E hr => ?_
  have tk : L2N.Takes (cxOf (L2N.CX P w) P w K mg base ["word", "sign"] "is_number" (defScope s_is_number) f cdv A outer s H E) (fun cls d _ H => E cls d H) := L2N.takes_of rfl rfl rfl rfl
  exact ⟨_, _, (pss_cons (ps_if (PW.pt (pw_or (pt_cmpR (op_eqD hr.units) (pv 0) pe_str (nomark _)) (pw_or1 (pt_cmpR op_gt (pe_callB call_len (by rfl) T.n_len PySem.boot_len (pa_cons (pv 0) pa_nil)) (pe_glob (v := .int 40) rfl T.c_MOST_FIGURES.choose_spec ⟨_, rfl⟩) (nomark _)))))
      (pss_one (ps_ret pe_bl))
      pss_nil)
      (pss_cons (ps_for (passes_of rfl) rfl (pi_str (pv 0)) (pg_name (i := 1) sc_is_number.nd rfl (by first | exact .inl rfl | exact .inr rfl))
      (pss_one (ps_if (pt_cmpR op_notin_str (pv 1) (pe_glob (v := .str v_FIGURES) rfl T.c_FIGURES.choose_spec ⟨_, rfl⟩) (by rfl))
      (pss_one (ps_ret pe_bl))
      pss_nil)))
      (pss_one (ps_ret (pe_or (pe_cmpR (op_eqD hr.units) (pv 0) pe_str (nomark _)) (pe_one (pe_cmpR (op_neD hr.units) (pe_ix ix_seq (pv 0) pe_int (fun _ _ => rfl)) pe_str (nomark _)))))))),
      (SOk.seq (SOk.ifS (TtOk.or (TtOk.test (TOk.op2 (opS 0) (opT TOk.cS) g_eq)) (TtOk.test (TOk.op2 (opT (TOk.cb1 (opS 0) g_len)) (opT TOk.cI) g_gt)))
      (SOk.ret TOk.cB)
      SOk.next)
      (SOk.seq (SOk.forS (TOk.rd (i := 0)) (GOk.name (i := 1))
      (SOk.ifS (TtOk.test (TOk.op2 (opS 1) (opT TOk.cS) g_notInS))
      (SOk.ret TOk.cB)
      SOk.next))
      (SOk.ret (TOk.orV (TOk.op2 (opS 0) (opT TOk.cS) g_eq) (TOk.op2 (opT (TOk.op2 (opS 0) (opT TOk.cI) g_ix)) (opT TOk.cS) g_ne))))), by decide⟩
abbrev s_read_number : Stmt := topS 20
theorem sc_read_number : FnScope ["word", "line"] ["word", "line"] (defScope s_read_number) := ⟨rfl, rfl, rfl, by decide +kernel, rfl, by decide +kernel, by decide +kernel⟩
def g_read_number : M Flw :=
    (seqM (ifM (notT (evT (.tmp (callM m_is_number [.tmp (rdv 0)]))))
    (raiseErr "BadText" ["line"] (PySem.Str.ofString "bad text") false (consM (rdv 1) (pure [])))
    (pure .nx))
    (retM (ev1 (.slot 0) oInt)))
def m_read_number : List D → FRes := defF 2 [false, false] g_read_number
theorem ok_read_number (T : Txt P K mg) : DefAt P w K mg base 2 "read_number" ["word", "line"] (spF (cnOf K) [false, false] m_read_number) := by
  have G_is_number := ok_is_number (base := base) (P := P) (w := w) T
  refine def_mk (k := 1) T.l_read_number sc_read_number rfl fun f cdv A outer s H E hr => ?_
  have tk : L2N.Takes (cxOf (L2N.CX P w) P w K mg base ["word", "line"] "read_number" (defScope s_read_number) f cdv A outer s H E) (fun cls d _ H => E cls d H) := L2N.takes_of rfl rfl rfl rfl
  exact ⟨_, _, (pss_cons (ps_if (pt_not (pt_truth (pe_cd G_is_number hr (fun σ => L2N.passAt tk σ) (pa_cons (pv 0) pa_nil)) (by intro _; rfl)))
      (pss_one (L2N.ps_raise rfl tk (pmk_err T.e_BadText hr (pa_cons (pv 1) pa_nil))))
      pss_nil)
      (pss_one (ps_ret (pe_callTy call_intA (by rfl) T.n_int (by decide +kernel) (pa_cons (pv 0) pa_nil))))),
      (SOk.seq (SOk.ifS (TtOk.not (TtOk.truth (opT (TOk.call (AgOk.cons (opT (TOk.rd (i := 0))) AgOk.nil)))))
      (SOk.raise (nm := "BadText") (msg := (PySem.Str.ofString "bad text")) (cat := false) (fs := ["line"]) (TaOk.cons (TOk.rd (i := 1)) TaOk.nil) (cls_BadText K))
      SOk.next)
      (SOk.ret (TOk.cb1 (opS 0) g_int))), by decide⟩
abbrev s_read_signed : Stmt := topS 21
theorem sc_read_signed : FnScope ["word", "line", "size"] ["word", "line"] (defScope s_read_signed) := ⟨rfl, rfl, rfl, by decide +kernel, rfl, by decide +kernel, by decide +kernel⟩
def g_read_signed : M Flw :=
    (seqM (ifM (asB (ev2 (.tmp (evS (.slot 0) none (some (pure (.int 1))) oSl)) (.tmp (pure (.str (PySem.Str.ofString "-")))) oNe))
    (retM (callM m_read_number [.tmp (mvv 0), .tmp (mvv 1)]))
    (pure .nx))
    (seqM (asgM (callM m_read_number [.tmp (evS (.slot 0) (some (pure (.int 1))) none oSl), .tmp (rdv 1)]) (stv 2))
    (seqM (ifM (asB (ev2 (.slot 2) (.tmp (pure (.int 0))) oEq))
    (raiseErr "BadText" ["line"] (PySem.Str.ofString "bad text") false (consM (rdv 1) (pure [])))
    (pure .nx))
    (retM (ev1 (.slot 2) oNeg)))))
def m_read_signed : List D → FRes := defF 3 [false, false] g_read_signed
theorem ok_read_signed (T : Txt P K mg) : DefAt P w K mg base 3 "read_signed" ["word", "line"] (spF (cnOf K) [false, false] m_read_signed) := by
  have G_read_number := ok_read_number (base := base) (P := P) (w := w) T
  refine def_mk (k := 2) T.l_read_signed sc_read_signed rfl fun f cdv A outer s H E hr => ?_
  have tk : L2N.Takes (cxOf (L2N.CX P w) P w K mg base ["word", "line", "size"] "read_signed" (defScope s_read_signed) f cdv A outer s H E) (fun cls d _ H => E cls d H) := L2N.takes_of rfl rfl rfl rfl
  exact ⟨_, _, (pss_cons (ps_if (pt_cmpR (op_neD hr.units) (pe_slice sl_any (pv 0) po_none (po_some pe_int)) pe_str (nomark _))
      (pss_one (ps_ret (pe_cd G_read_number hr (fun σ => L2N.passAt tk σ) (pa_cons (pv 0) (pa_cons (pv 1) pa_nil)))))
      pss_nil)
      (pss_cons (ps_set (i := 2) sc_read_signed.nd rfl (by first | exact .inl rfl | exact .inr rfl) (pe_cd G_read_number hr (fun σ => L2N.passAt tk σ) (pa_cons (pe_slice sl_any (pv 0) (po_some pe_int) po_none) (pa_cons (pv 1) pa_nil))))
      (pss_cons (ps_if (pt_cmpR (op_eqD hr.units) (pv 2) pe_int (nomark _))
      (pss_one (L2N.ps_raise rfl tk (pmk_err T.e_BadText hr (pa_cons (pv 1) pa_nil))))
      pss_nil)
      (pss_one (ps_ret (pe_un un_neg (pv 2))))))),
      (SOk.seq (SOk.ifS (TtOk.test (TOk.op2 (opT (TOk.slice (opS 0) rfl ⟨_, rfl, TOk.cI⟩ g_sl)) (opT TOk.cS) g_ne))
      (SOk.ret (TOk.call (AgOk.cons (opT (TOk.mv (i := 0))) (AgOk.cons (opT (TOk.mv (i := 1))) AgOk.nil))))
      SOk.next)
      (SOk.seq (SOk.asg (TOk.call (AgOk.cons (opT (TOk.slice (opS 0) ⟨_, rfl, TOk.cI⟩ rfl g_sl)) (AgOk.cons (opT (TOk.rd (i := 1))) AgOk.nil))) (GOk.name (i := 2)))
      (SOk.seq (SOk.ifS (TtOk.test (TOk.op2 (opS 2) (opT TOk.cI) g_eq))
      (SOk.raise (nm := "BadText") (msg := (PySem.Str.ofString "bad text")) (cat := false) (fs := ["line"]) (TaOk.cons (TOk.rd (i := 1)) TaOk.nil) (cls_BadText K))
      SOk.next)
      (SOk.ret (TOk.un (opS 2) g_neg))))), by decide⟩
abbrev s_ascending : Stmt := topS 22
theorem sc_ascending : FnScope ["numbers", "at"] ["numbers"] (defScope s_ascending) := ⟨rfl, rfl, rfl, by decide +kernel, rfl, by decide +kernel, by decide +kernel⟩
def g_ascending : M Flw :=
    (seqM (forR2 (consM (pure (.int 1)) (consM (ev1 (.slot 0) oLen) (pure []))) (stv 1)
    (ifM (asB (ev2 (.tmp (ev2 (.slot 0) (.tmp (ev2 (.slot 1) (.tmp (pure (.int 1))) oSub)) oIx)) (.tmp (ev2 (.slot 0) (.slot 1) oIx)) oGe))
    (retM (pure (.bl false)))
    (pure .nx)))
    (retM (pure (.bl true))))
def m_ascending : List D → FRes := defF 2 [true] g_ascending
theorem ok_ascending (T : Txt P K mg) : DefAt P w K mg base 1 "ascending" ["numbers"] (spF (cnOf K) [true] m_ascending) := by
  refine def_mk (k := 0) T.l_ascending sc_ascending rfl fun f cdv A outer s H E hr => ?_
  have tk : L2N.Takes (cxOf (L2N.CX P w) P w K mg base ["numbers", "at"] "ascending" (defScope s_ascending) f cdv A outer s H E) (fun cls d _ H => E cls d H) := L2N.takes_of rfl rfl rfl rfl
  exact ⟨_, _, (pss_cons (ps_for (passes_of rfl) rfl (pi_range2 rfl T.n_range (pa_cons pe_int (pa_cons (pe_callB call_len (by rfl) T.n_len PySem.boot_len (pa_cons (pv 0) pa_nil)) pa_nil))) (pg_name (i := 1) sc_ascending.nd rfl (by first | exact .inl rfl | exact .inr rfl))
      (pss_one (ps_if (pt_cmpR op_ge (pe_ix ix_seq (pv 0) (pe_op op_sub (pv 1) pe_int) (fun _ _ => rfl)) (pe_ix ix_seq (pv 0) (pv 1) (fun _ _ => rfl)) (nomark _))
      (pss_one (ps_ret pe_bl))
      pss_nil)))
      (pss_one (ps_ret pe_bl))),
      (SOk.seq (SOk.forR2 (TaOk.cons TOk.cI (TaOk.cons (TOk.cb1 (opS 0) g_len) TaOk.nil)) (GOk.name (i := 1))
      (SOk.ifS (TtOk.test (TOk.op2 (opT (TOk.op2 (opS 0) (opT (TOk.op2 (opS 1) (opT TOk.cI) g_sub)) g_ix)) (opT (TOk.op2 (opS 0) (opS 1) g_ix)) g_ge))
      (SOk.ret TOk.cB)
      SOk.next))
      (SOk.ret TOk.cB)), by decide⟩
abbrev s_read_set : Stmt := topS 23
theorem sc_read_set : FnScope ["word", "line", "told", "part"] ["word", "line"] (defScope s_read_set) := ⟨rfl, rfl, rfl, by decide +kernel, rfl, by decide +kernel, by decide +kernel⟩
def g_read_set : M Flw :=
    (seqM (ifM (asB (ev2 (.slot 0) (.tmp (pure (.str (PySem.Str.ofString "-")))) oEq))
    (retM (lstM (pure [])))
    (pure .nx))
    (seqM (asgM (lcE [3] (evM1 (mvv 0) (.tmp (pure (.str (PySem.Str.ofString ",")))) oSplit) (stv 3) (pure true) (callM m_read_number [.tmp (rdv 3), .tmp (rdv 1)])) (stv 2))
    (seqM (ifM (notT (evT (.tmp (callM m_ascending [.slot 2]))))
    (raiseErr "BadText" ["line"] (PySem.Str.ofString "bad text") false (consM (rdv 1) (pure [])))
    (pure .nx))
    (retM (mvv 2)))))
def m_read_set : List D → FRes := defF 4 [false, false] g_read_set
theorem ok_read_set (T : Txt P K mg) : DefAt P w K mg base 3 "read_set" ["word", "line"] (spF (cnOf K) [false, false] m_read_set) := by
  have G_read_number := ok_read_number (base := base) (P := P) (w := w) T
  have G_ascending := ok_ascending (base := base) (P := P) (w := w) T
  refine def_mk (k := 2) T.l_read_set sc_read_set rfl fun f cdv A outer s H E hr => ?_
  have tk : L2N.Takes (cxOf (L2N.CX P w) P w K mg base ["word", "line", "told", "part"] "read_set" (defScope s_read_set) f cdv A outer s H E) (fun cls d _ H => E cls d H) := L2N.takes_of rfl rfl rfl rfl
  exact ⟨_, _, (pss_cons (ps_if (pt_cmpR (op_eqD hr.units) (pv 0) pe_str (nomark _))
      (pss_one (ps_ret (pe_lst pa_nil)))
      pss_nil)
      (pss_cons (CompE.ps_setLcE (i := 2) (own := [("part", 3)]) rfl sc_read_set.nd rfl rfl tk rfl rfl (sw_true rfl rfl rfl (by decide +kernel)) (pi_list (pe_split (pv 0) pe_str)) (blkOk_by (by kernel_rfl)) (fun _ _ _ _ _ => (pg_name (i := 3) sc_read_set.nd rfl (by first | exact .inl rfl | exact .inr rfl))) (fun _ _ _ _ _ => pts_nil)
      (fun _ _ _ _ _ _ tk => (pe_cd G_read_number hr (fun σ => L2N.passAt tk σ) (pa_cons (pv 3) (pa_cons (pv 1) pa_nil)))))
      (pss_cons (ps_if (pt_not (pt_truth (pe_cd G_ascending hr (fun σ => L2N.passAt tk σ) (pa_cons (pv 2) pa_nil)) (by intro _; rfl)))
      (pss_one (L2N.ps_raise rfl tk (pmk_err T.e_BadText hr (pa_cons (pv 1) pa_nil))))
      pss_nil)
      (pss_one (ps_ret (pv 2)))))),
      (SOk.seq (SOk.ifS (TtOk.test (TOk.op2 (opS 0) (opT TOk.cS) g_eq))
      (SOk.ret (TOk.lst TaOk.nil))
      SOk.next)
      (SOk.seq (SOk.asg (TOk.lcE (vs := [3]) (TOk.m1 (TOk.mv (i := 0)) (opT TOk.cS) g_split) (GOk.name (i := 3)) TtOk.yes (TOk.call (AgOk.cons (opT (TOk.rd (i := 3))) (AgOk.cons (opT (TOk.rd (i := 1))) AgOk.nil)))) (GOk.name (i := 2)))
      (SOk.seq (SOk.ifS (TtOk.not (TtOk.truth (opT (TOk.call (AgOk.cons (opS 2) AgOk.nil)))))
      (SOk.raise (nm := "BadText") (msg := (PySem.Str.ofString "bad text")) (cat := false) (fs := ["line"]) (TaOk.cons (TOk.rd (i := 1)) TaOk.nil) (cls_BadText K))
      SOk.next)
      (SOk.ret (TOk.mv (i := 2)))))), by decide⟩
abbrev s_read_pairs : Stmt := topS 24
theorem sc_read_pairs : FnScope ["word", "line", "told", "part", "sides", "pair"] ["word", "line"] (defScope s_read_pairs) := ⟨rfl, rfl, rfl, by decide +kernel, rfl, by decide +kernel, by decide +kernel⟩
def g_read_pairs : M Flw :=
    (seqM (ifM (asB (ev2 (.slot 0) (.tmp (pure (.str (PySem.Str.ofString "-")))) oEq))
    (retM (lstM (pure [])))
    (pure .nx))
    (seqM (asgM (lstM (pure [])) (stv 2))
    (seqM (forL (evM1 (mvv 0) (.tmp (pure (.str (PySem.Str.ofString ",")))) oSplit) (stv 3)
    (seqM (asgM (evM1 (mvv 3) (.tmp (pure (.str (PySem.Str.ofString ":")))) oSplit) (stv 4))
    (seqM (ifM (asB (ev2 (.tmp (ev1 (.slot 4) oLen)) (.tmp (pure (.int 2))) oNe))
    (raiseErr "BadText" ["line"] (PySem.Str.ofString "bad text") false (consM (rdv 1) (pure [])))
    (pure .nx))
    (dropM (appM 2 (tupM (consM (callM m_read_number [.tmp (ev2 (.slot 4) (.tmp (pure (.int 0))) oIx), .tmp (rdv 1)]) (consM (callM m_read_signed [.tmp (ev2 (.slot 4) (.tmp (pure (.int 1))) oIx), .tmp (rdv 1)]) (pure [])))))))))
    (seqM (ifM (notT (evT (.tmp (callM m_ascending [.tmp (lcB [5] 2 (stv 5) (pure true) (ev2 (.slot 5) (.tmp (pure (.int 0))) oIx))]))))
    (raiseErr "BadText" ["line"] (PySem.Str.ofString "bad text") false (consM (rdv 1) (pure [])))
    (pure .nx))
    (retM (mvv 2))))))
def m_read_pairs : List D → FRes := defF 6 [false, false] g_read_pairs
theorem ok_read_pairs (T : Txt P K mg) : DefAt P w K mg base 4 "read_pairs" ["word", "line"] (spF (cnOf K) [false, false] m_read_pairs) := by
  have G_read_signed := ok_read_signed (base := base) (P := P) (w := w) T
  have G_read_number := ok_read_number (base := base) (P := P) (w := w) T
  have G_ascending := ok_ascending (base := base) (P := P) (w := w) T
  refine def_mk (k := 3) T.l_read_pairs sc_read_pairs rfl fun f cdv A outer s H E hr => ?_
  have tk : L2N.Takes (cxOf (L2N.CX P w) P w K mg base ["word", "line", "told", "part", "sides", "pair"] "read_pairs" (defScope s_read_pairs) f cdv A outer s H E) (fun cls d _ H => E cls d H) := L2N.takes_of rfl rfl rfl rfl
  exact ⟨_, _, (pss_cons (ps_if (pt_cmpR (op_eqD hr.units) (pv 0) pe_str (nomark _))
      (pss_one (ps_ret (pe_lst pa_nil)))
      pss_nil)
      (pss_cons (ps_set (i := 2) sc_read_pairs.nd rfl (by first | exact .inl rfl | exact .inr rfl) (pe_lst pa_nil))
      (pss_cons (ps_for (passes_of rfl) rfl (pi_list (pe_split (pv 0) pe_str)) (pg_name (i := 3) sc_read_pairs.nd rfl (by first | exact .inl rfl | exact .inr rfl))
      (pss_cons (ps_set (i := 4) sc_read_pairs.nd rfl (by first | exact .inl rfl | exact .inr rfl) (pe_split (pv 3) pe_str))
      (pss_cons (ps_if (pt_cmpR (op_neD hr.units) (pe_callB call_len (by rfl) T.n_len PySem.boot_len (pa_cons (pv 4) pa_nil)) pe_int (nomark _))
      (pss_one (L2N.ps_raise rfl tk (pmk_err T.e_BadText hr (pa_cons (pv 1) pa_nil))))
      pss_nil)
      (pss_one (ps_expr (pe_bm PySem.F.plainAttrs_list PySem.F.slot_list_append PySem.F.type_list_append mt_append (pv 2) (pa_cons (pe_tup (pa_cons (pe_cd G_read_number hr (fun σ => L2N.passAt tk σ) (pa_cons (pe_ix ix_seq (pv 4) pe_int (fun _ _ => rfl)) (pa_cons (pv 1) pa_nil))) (pa_cons (pe_cd G_read_signed hr (fun σ => L2N.passAt tk σ) (pa_cons (pe_ix ix_seq (pv 4) pe_int (fun _ _ => rfl)) (pa_cons (pv 1) pa_nil))) pa_nil))) pa_nil)))))))
      (pss_cons (ps_if (pt_not (pt_truth (pe_cd G_ascending hr (fun σ => L2N.passAt tk σ) (pa_cons (pe_lc (own := [("pair", 5)]) rfl sc_read_pairs.nd (pi_list (pv 2)) (blkOk_by (by kernel_rfl)) (fun _ _ _ _ _ => (pg_name (i := 5) sc_read_pairs.nd rfl (by first | exact .inl rfl | exact .inr rfl))) (fun _ _ _ _ _ => pts_nil)
      (fun _ _ _ _ _ => (pe_ix ix_seq (pv 5) pe_int (fun _ _ => rfl)))) pa_nil)) (by intro _; rfl)))
      (pss_one (L2N.ps_raise rfl tk (pmk_err T.e_BadText hr (pa_cons (pv 1) pa_nil))))
      pss_nil)
      (pss_one (ps_ret (pv 2))))))),
      (SOk.seq (SOk.ifS (TtOk.test (TOk.op2 (opS 0) (opT TOk.cS) g_eq))
      (SOk.ret (TOk.lst TaOk.nil))
      SOk.next)
      (SOk.seq (SOk.asg (TOk.lst TaOk.nil) (GOk.name (i := 2)))
      (SOk.seq (SOk.forL (TOk.m1 (TOk.mv (i := 0)) (opT TOk.cS) g_split) (GOk.name (i := 3))
      (SOk.seq (SOk.asg (TOk.m1 (TOk.mv (i := 3)) (opT TOk.cS) g_split) (GOk.name (i := 4)))
      (SOk.seq (SOk.ifS (TtOk.test (TOk.op2 (opT (TOk.cb1 (opS 4) g_len)) (opT TOk.cI) g_ne))
      (SOk.raise (nm := "BadText") (msg := (PySem.Str.ofString "bad text")) (cat := false) (fs := ["line"]) (TaOk.cons (TOk.rd (i := 1)) TaOk.nil) (cls_BadText K))
      SOk.next)
      (SOk.drop (TOk.append (TOk.tup (TaOk.cons (TOk.call (AgOk.cons (opT (TOk.op2 (opS 4) (opT TOk.cI) g_ix)) (AgOk.cons (opT (TOk.rd (i := 1))) AgOk.nil))) (TaOk.cons (TOk.call (AgOk.cons (opT (TOk.op2 (opS 4) (opT TOk.cI) g_ix)) (AgOk.cons (opT (TOk.rd (i := 1))) AgOk.nil))) TaOk.nil))))))))
      (SOk.seq (SOk.ifS (TtOk.not (TtOk.truth (opT (TOk.call (AgOk.cons (opT (TOk.lcB (vs := [5]) (i := 2) (GOk.name (i := 5)) TtOk.yes (TOk.op2 (opS 5) (opT TOk.cI) g_ix))) AgOk.nil)))))
      (SOk.raise (nm := "BadText") (msg := (PySem.Str.ofString "bad text")) (cat := false) (fs := ["line"]) (TaOk.cons (TOk.rd (i := 1)) TaOk.nil) (cls_BadText K))
      SOk.next)
      (SOk.ret (TOk.mv (i := 2))))))), by decide⟩
abbrev s_read_row : Stmt := topS 25
theorem sc_read_row : FnScope ["word", "line", "part"] ["word", "line"] (defScope s_read_row) := ⟨rfl, rfl, rfl, by decide +kernel, rfl, by decide +kernel, by decide +kernel⟩
def g_read_row : M Flw :=
    (seqM (ifM (asB (ev2 (.slot 0) (.tmp (pure (.str (PySem.Str.ofString "-")))) oEq))
    (retM (lstM (pure [])))
    (pure .nx))
    (retM (lcE [2] (evM1 (mvv 0) (.tmp (pure (.str (PySem.Str.ofString ">")))) oSplit) (stv 2) (pure true) (callM m_read_number [.tmp (rdv 2), .tmp (rdv 1)]))))
def m_read_row : List D → FRes := defF 3 [false, false] g_read_row
theorem ok_read_row (T : Txt P K mg) : DefAt P w K mg base 3 "read_row" ["word", "line"] (spF (cnOf K) [false, false] m_read_row) := by
  have G_read_number := ok_read_number (base := base) (P := P) (w := w) T
  refine def_mk (k := 2) T.l_read_row sc_read_row rfl fun f cdv A outer s H E hr => ?_
  have tk : L2N.Takes (cxOf (L2N.CX P w) P w K mg base ["word", "line", "part"] "read_row" (defScope s_read_row) f cdv A outer s H E) (fun cls d _ H => E cls d H) := L2N.takes_of rfl rfl rfl rfl
  exact ⟨_, _, (pss_cons (ps_if (pt_cmpR (op_eqD hr.units) (pv 0) pe_str (nomark _))
      (pss_one (ps_ret (pe_lst pa_nil)))
      pss_nil)
      (pss_one (ps_ret (CompE.pe_lcE (own := [("part", 2)]) rfl sc_read_row.nd rfl rfl tk (pi_list (pe_split (pv 0) pe_str)) (blkOk_by (by kernel_rfl)) (fun _ _ _ _ _ => (pg_name (i := 2) sc_read_row.nd rfl (by first | exact .inl rfl | exact .inr rfl))) (fun _ _ _ _ _ => pts_nil)
      (fun _ _ _ _ _ _ tk => (pe_cd G_read_number hr (fun σ => L2N.passAt tk σ) (pa_cons (pv 2) (pa_cons (pv 1) pa_nil)))))))),
      (SOk.seq (SOk.ifS (TtOk.test (TOk.op2 (opS 0) (opT TOk.cS) g_eq))
      (SOk.ret (TOk.lst TaOk.nil))
      SOk.next)
      (SOk.ret (TOk.lcE (vs := [2]) (TOk.m1 (TOk.mv (i := 0)) (opT TOk.cS) g_split) (GOk.name (i := 2)) TtOk.yes (TOk.call (AgOk.cons (opT (TOk.rd (i := 2))) (AgOk.cons (opT (TOk.rd (i := 1))) AgOk.nil)))))), by decide⟩
abbrev s__law_source : Stmt := topS 27
theorem sc__law_source : FnScope ["script", "at", "fold", "cell", "own", "great", "left"] ["script", "at"] (defScope s__law_source) := ⟨rfl, rfl, rfl, by decide +kernel, rfl, by decide +kernel, by decide +kernel⟩
def g__law_source : M Flw :=
    (seqM (asgM (pure (.int 0)) (stv 2))
    (seqM (forL (evS (.slot 0) none (some (pure (.int 63))) oSl) (stv 3)
    (asgM (ev2 (.tmp (ev2 (.tmp (ev2 (.tmp (ev2 (.slot 2) (.tmp (pure (.int 1000003))) oMul)) (.tmp (ev1 (.slot 3) oInt)) oPlus)) (.tmp (pure (.int 12289))) oPlus)) (.tmp (pure (.int 2305843009213693951))) oMod) (stv 2)))
    (seqM (asgM (ifV (asB (ev2 (.slot 1) (.tmp (ev1 (.slot 0) oLen)) oLt)) (ev1 (.tmp (ev2 (.slot 0) (.slot 1) oIx)) oInt) (pure (.int 0))) (stv 4))
    (seqM (asgM (ev2 (.tmp (pure (.int 10))) (.tmp (pure (.int 64))) oPow) (stv 5))
    (seqM (asgM (ev2 (.slot 4) (.tmp (ev2 (.tmp (ev2 (.tmp (ev2 (.tmp (ev2 (.slot 5) (.tmp (rdv 5)) oMul)) (.slot 5) oMul)) (.slot 5) oMul)) (.slot 5) oMul)) oMod) (stv 4))
    (seqM (asgM (ifV (asB (ev2 (.slot 4) (.tmp (ev2 (.tmp (pure (.int 10))) (.tmp (pure (.int 18))) oPow)) oGe)) (rdv 4) (pure (.int 0))) (stv 6))
    (retM (lstM (consM (mvv 6) (consM (ev2 (.tmp (ev2 (.tmp (ev2 (.slot 2) (.tmp (ev2 (.tmp (pure (.int 911))) (.slot 1) oMul)) oPlus)) (.tmp (pure (.int 7))) oPlus)) (.tmp (pure (.int 2147483647))) oMod) (consM (ev2 (.tmp (ev2 (.tmp (ev2 (.tmp (ev2 (.slot 2) (.tmp (pure (.int 2147483647))) oDiv)) (.tmp (ev2 (.tmp (pure (.int 5077))) (.slot 1) oMul)) oPlus)) (.tmp (pure (.int 3))) oPlus)) (.tmp (pure (.int 2147483629))) oMod) (consM (pure (.int 0)) (pure [])))))))))))))
def m__law_source : List D → FRes := defF 7 [false, false] g__law_source
theorem ok__law_source (T : Txt P K mg) : DefAt P w K mg base 1 "_law_source" ["script", "at"] (spF (cnOf K) [false, false] m__law_source) := by
  refine def_mk (k := 0) T.l__law_source sc__law_source rfl fun f cdv A outer s H E hr => ?_
  have tk : L2N.Takes (cxOf (L2N.CX P w) P w K mg base ["script", "at", "fold", "cell", "own", "great", "left"] "_law_source" (defScope s__law_source) f cdv A outer s H E) (fun cls d _ H => E cls d H) := L2N.takes_of rfl rfl rfl rfl
  exact ⟨_, _, (pss_cons (ps_set (i := 2) sc__law_source.nd rfl (by first | exact .inl rfl | exact .inr rfl) pe_int)
      (pss_cons (ps_for (passes_of rfl) rfl (pi_list (pe_slice sl_any (pv 0) po_none (po_some pe_int))) (pg_name (i := 3) sc__law_source.nd rfl (by first | exact .inl rfl | exact .inr rfl))
      (pss_one (ps_set (i := 2) sc__law_source.nd rfl (by first | exact .inl rfl | exact .inr rfl) (pe_op op_mod (pe_op op_plus (pe_op op_plus (pe_op op_mulA (pv 2) pe_int) (pe_callTy call_intA (by rfl) T.n_int (by decide +kernel) (pa_cons (pv 3) pa_nil))) pe_int) pe_int))))
      (pss_cons (ps_set (i := 4) sc__law_source.nd rfl (by first | exact .inl rfl | exact .inr rfl) (pe_ifExp (pt_cmpR op_lt (pv 1) (pe_callB call_len (by rfl) T.n_len PySem.boot_len (pa_cons (pv 0) pa_nil)) (nomark _)) (pe_callTy call_intA (by rfl) T.n_int (by decide +kernel) (pa_cons (pe_ix ix_seq (pv 0) (pv 1) (fun _ _ => rfl)) pa_nil)) pe_int))
      (pss_cons (ps_set (i := 5) sc__law_source.nd rfl (by first | exact .inl rfl | exact .inr rfl) (pe_op op_pow pe_int pe_int))
      (pss_cons (ps_set (i := 4) sc__law_source.nd rfl (by first | exact .inl rfl | exact .inr rfl) (pe_op op_mod (pv 4) (pe_op op_mulA (pe_op op_mulA (pe_op op_mulA (pe_op op_mulA (pv 5) (pv 5)) (pv 5)) (pv 5)) (pv 5))))
      (pss_cons (ps_set (i := 6) sc__law_source.nd rfl (by first | exact .inl rfl | exact .inr rfl) (pe_ifExp (pt_cmpR op_ge (pv 4) (pe_op op_pow pe_int pe_int) (nomark _)) (pv 4) pe_int))
      (pss_one (ps_ret (pe_lst (pa_cons (pv 6) (pa_cons (pe_op op_mod (pe_op op_plus (pe_op op_plus (pv 2) (pe_op op_mulA pe_int (pv 1))) pe_int) pe_int) (pa_cons (pe_op op_mod (pe_op op_plus (pe_op op_plus (pe_op op_fdivW (pv 2) pe_int) (pe_op op_mulA pe_int (pv 1))) pe_int) pe_int) (pa_cons pe_int pa_nil))))))))))))),
      (SOk.seq (SOk.asg TOk.cI (GOk.name (i := 2)))
      (SOk.seq (SOk.forL (TOk.slice (opS 0) rfl ⟨_, rfl, TOk.cI⟩ g_sl) (GOk.name (i := 3))
      (SOk.asg (TOk.op2 (opT (TOk.op2 (opT (TOk.op2 (opT (TOk.op2 (opS 2) (opT TOk.cI) g_mul)) (opT (TOk.cb1 (opS 3) g_int)) g_plus)) (opT TOk.cI) g_plus)) (opT TOk.cI) g_mod) (GOk.name (i := 2))))
      (SOk.seq (SOk.asg (TOk.ifV (TtOk.test (TOk.op2 (opS 1) (opT (TOk.cb1 (opS 0) g_len)) g_lt)) (TOk.cb1 (opT (TOk.op2 (opS 0) (opS 1) g_ix)) g_int) TOk.cI) (GOk.name (i := 4)))
      (SOk.seq (SOk.asg (TOk.op2 (opT TOk.cI) (opT TOk.cI) g_pow) (GOk.name (i := 5)))
      (SOk.seq (SOk.asg (TOk.op2 (opS 4) (opT (TOk.op2 (opT (TOk.op2 (opT (TOk.op2 (opT (TOk.op2 (opS 5) (opT (TOk.rd (i := 5))) g_mul)) (opS 5) g_mul)) (opS 5) g_mul)) (opS 5) g_mul)) g_mod) (GOk.name (i := 4)))
      (SOk.seq (SOk.asg (TOk.ifV (TtOk.test (TOk.op2 (opS 4) (opT (TOk.op2 (opT TOk.cI) (opT TOk.cI) g_pow)) g_ge)) (TOk.rd (i := 4)) TOk.cI) (GOk.name (i := 6)))
      (SOk.ret (TOk.lst (TaOk.cons (TOk.mv (i := 6)) (TaOk.cons (TOk.op2 (opT (TOk.op2 (opT (TOk.op2 (opS 2) (opT (TOk.op2 (opT TOk.cI) (opS 1) g_mul)) g_plus)) (opT TOk.cI) g_plus)) (opT TOk.cI) g_mod) (TaOk.cons (TOk.op2 (opT (TOk.op2 (opT (TOk.op2 (opT (TOk.op2 (opS 2) (opT TOk.cI) g_div)) (opT (TOk.op2 (opT TOk.cI) (opS 1) g_mul)) g_plus)) (opT TOk.cI) g_plus)) (opT TOk.cI) g_mod) (TaOk.cons TOk.cI TaOk.nil)))))))))))), by decide⟩
abbrev s__law_pick : Stmt := topS 28
theorem sc__law_pick : FnScope ["s", "many", "told"] ["s", "many"] (defScope s__law_pick) := ⟨rfl, rfl, rfl, by decide +kernel, rfl, by decide +kernel, by decide +kernel⟩
def g__law_pick : M Flw :=
    (seqM (ifM (asB (ev2 (.slot 1) (.tmp (pure (.int 1))) oLe))
    (retM (pure (.int 0)))
    (pure .nx))
    (seqM (ifM (asB (ev2 (.tmp (ev2 (.slot 0) (.tmp (pure (.int 0))) oIx)) (.tmp (pure (.int 0))) oGt))
    (seqM (asgM (ev2 (.tmp (ev1 (.tmp (ev2 (.slot 0) (.tmp (pure (.int 0))) oIx)) oInt)) (.slot 1) oMod) (stv 2))
    (seqM (setIx 0 (ev2 (.tmp (ev2 (.slot 0) (.tmp (pure (.int 0))) oIx)) (.slot 1) oDiv) (pure (.int 0)))
    (retM (mvv 2))))
    (pure .nx))
    (seqM (setIx 0 (ev2 (.tmp (ev2 (.slot 0) (.tmp (pure (.int 3))) oIx)) (.tmp (pure (.int 1))) oPlus) (pure (.int 3)))
    (seqM (setIx 0 (ev2 (.tmp (ev2 (.tmp (ev2 (.tmp (ev2 (.tmp (ev2 (.slot 0) (.tmp (pure (.int 1))) oIx)) (.tmp (pure (.int 48271))) oMul)) (.tmp (ev2 (.tmp (ev2 (.slot 0) (.tmp (pure (.int 3))) oIx)) (.tmp (pure (.int 69621))) oMul)) oPlus)) (.tmp (pure (.int 11))) oPlus)) (.tmp (pure (.int 2147483647))) oMod) (pure (.int 1)))
    (seqM (setIx 0 (ev2 (.tmp (ev2 (.tmp (ev2 (.tmp (ev2 (.tmp (ev2 (.slot 0) (.tmp (pure (.int 2))) oIx)) (.tmp (pure (.int 69621))) oMul)) (.tmp (ev2 (.tmp (ev2 (.slot 0) (.tmp (pure (.int 1))) oIx)) (.tmp (pure (.int 7))) oMul)) oPlus)) (.tmp (ev2 (.slot 0) (.tmp (pure (.int 3))) oIx)) oPlus)) (.tmp (pure (.int 2147483629))) oMod) (pure (.int 2)))
    (retM (ev2 (.tmp (ev2 (.tmp (ev2 (.tmp (ev2 (.slot 0) (.tmp (pure (.int 1))) oIx)) (.tmp (pure (.int 5))) oDiv)) (.tmp (ev2 (.tmp (ev2 (.slot 0) (.tmp (pure (.int 2))) oIx)) (.tmp (pure (.int 3))) oDiv)) oPlus)) (.slot 1) oMod)))))))
def m__law_pick : List D → FRes := defF 3 [true, false] g__law_pick
theorem ok__law_pick (T : Txt P K mg) : DefAt P w K mg base 1 "_law_pick" ["s", "many"] (spF (cnOf K) [true, false] m__law_pick) := by
  refine def_mk (k := 0) T.l__law_pick sc__law_pick rfl fun f cdv A outer s H E hr => ?_
  have tk : L2N.Takes (cxOf (L2N.CX P w) P w K mg base ["s", "many", "told"] "_law_pick" (defScope s__law_pick) f cdv A outer s H E) (fun cls d _ H => E cls d H) := L2N.takes_of rfl rfl rfl rfl
  exact ⟨_, _, (pss_cons (ps_if (pt_cmpR op_le (pv 1) pe_int (nomark _))
      (pss_one (ps_ret pe_int))
      pss_nil)
      (pss_cons (ps_if (pt_cmpR op_gt (pe_ix ix_seq (pv 0) pe_int (fun _ _ => rfl)) pe_int (nomark _))
      (pss_cons (ps_set (i := 2) sc__law_pick.nd rfl (by first | exact .inl rfl | exact .inr rfl) (pe_op op_mod (pe_callTy call_intA (by rfl) T.n_int (by decide +kernel) (pa_cons (pe_ix ix_seq (pv 0) pe_int (fun _ _ => rfl)) pa_nil)) (pv 1)))
      (pss_cons (ps_asg (pe_op op_fdivW (pe_ix ix_seq (pv 0) pe_int (fun _ _ => rfl)) (pv 1)) (pg_sub (pv 0) pe_int set_list))
      (pss_one (ps_ret (pv 2)))))
      pss_nil)
      (pss_cons (ps_asg (pe_op op_plus (pe_ix ix_seq (pv 0) pe_int (fun _ _ => rfl)) pe_int) (pg_sub (pv 0) pe_int set_list))
      (pss_cons (ps_asg (pe_op op_mod (pe_op op_plus (pe_op op_plus (pe_op op_mulA (pe_ix ix_seq (pv 0) pe_int (fun _ _ => rfl)) pe_int) (pe_op op_mulA (pe_ix ix_seq (pv 0) pe_int (fun _ _ => rfl)) pe_int)) pe_int) pe_int) (pg_sub (pv 0) pe_int set_list))
      (pss_cons (ps_asg (pe_op op_mod (pe_op op_plus (pe_op op_plus (pe_op op_mulA (pe_ix ix_seq (pv 0) pe_int (fun _ _ => rfl)) pe_int) (pe_op op_mulA (pe_ix ix_seq (pv 0) pe_int (fun _ _ => rfl)) pe_int)) (pe_ix ix_seq (pv 0) pe_int (fun _ _ => rfl))) pe_int) (pg_sub (pv 0) pe_int set_list))
      (pss_one (ps_ret (pe_op op_mod (pe_op op_plus (pe_op op_fdivW (pe_ix ix_seq (pv 0) pe_int (fun _ _ => rfl)) pe_int) (pe_op op_fdivW (pe_ix ix_seq (pv 0) pe_int (fun _ _ => rfl)) pe_int)) (pv 1))))))))),
      (SOk.seq (SOk.ifS (TtOk.test (TOk.op2 (opS 1) (opT TOk.cI) g_le))
      (SOk.ret TOk.cI)
      SOk.next)
      (SOk.seq (SOk.ifS (TtOk.test (TOk.op2 (opT (TOk.op2 (opS 0) (opT TOk.cI) g_ix)) (opT TOk.cI) g_gt))
      (SOk.seq (SOk.asg (TOk.op2 (opT (TOk.cb1 (opT (TOk.op2 (opS 0) (opT TOk.cI) g_ix)) g_int)) (opS 1) g_mod) (GOk.name (i := 2)))
      (SOk.seq (SOk.setIx (TOk.op2 (opT (TOk.op2 (opS 0) (opT TOk.cI) g_ix)) (opS 1) g_div) TOk.cI)
      (SOk.ret (TOk.mv (i := 2)))))
      SOk.next)
      (SOk.seq (SOk.setIx (TOk.op2 (opT (TOk.op2 (opS 0) (opT TOk.cI) g_ix)) (opT TOk.cI) g_plus) TOk.cI)
      (SOk.seq (SOk.setIx (TOk.op2 (opT (TOk.op2 (opT (TOk.op2 (opT (TOk.op2 (opT (TOk.op2 (opS 0) (opT TOk.cI) g_ix)) (opT TOk.cI) g_mul)) (opT (TOk.op2 (opT (TOk.op2 (opS 0) (opT TOk.cI) g_ix)) (opT TOk.cI) g_mul)) g_plus)) (opT TOk.cI) g_plus)) (opT TOk.cI) g_mod) TOk.cI)
      (SOk.seq (SOk.setIx (TOk.op2 (opT (TOk.op2 (opT (TOk.op2 (opT (TOk.op2 (opT (TOk.op2 (opS 0) (opT TOk.cI) g_ix)) (opT TOk.cI) g_mul)) (opT (TOk.op2 (opT (TOk.op2 (opS 0) (opT TOk.cI) g_ix)) (opT TOk.cI) g_mul)) g_plus)) (opT (TOk.op2 (opS 0) (opT TOk.cI) g_ix)) g_plus)) (opT TOk.cI) g_mod) TOk.cI)
      (SOk.ret (TOk.op2 (opT (TOk.op2 (opT (TOk.op2 (opT (TOk.op2 (opS 0) (opT TOk.cI) g_ix)) (opT TOk.cI) g_div)) (opT (TOk.op2 (opT (TOk.op2 (opS 0) (opT TOk.cI) g_ix)) (opT TOk.cI) g_div)) g_plus)) (opS 1) g_mod))))))), by decide⟩
abbrev s__law_one : Stmt := topS 29
theorem sc__law_one : FnScope ["s", "things"] ["s", "things"] (defScope s__law_one) := ⟨rfl, rfl, rfl, by decide +kernel, rfl, by decide +kernel, by decide +kernel⟩
def g__law_one : M Flw :=
    (retM (ev2 (.slot 1) (.tmp (callM m__law_pick [.slot 0, .tmp (ev1 (.slot 1) oLen)])) oIx))
def m__law_one : List D → FRes := defF 2 [true, false] g__law_one
theorem ok__law_one (T : Txt P K mg) : DefAt P w K mg base 2 "_law_one" ["s", "things"] (spF (cnOf K) [true, false] m__law_one) := by
  have G__law_pick := ok__law_pick (base := base) (P := P) (w := w) T
  refine def_mk (k := 1) T.l__law_one sc__law_one rfl fun f cdv A outer s H E hr => ?_
  have tk : L2N.Takes (cxOf (L2N.CX P w) P w K mg base ["s", "things"] "_law_one" (defScope s__law_one) f cdv A outer s H E) (fun cls d _ H => E cls d H) := L2N.takes_of rfl rfl rfl rfl
  exact ⟨_, _, (pss_one (ps_ret (pe_ix ix_seq (pv 1) (pe_cd G__law_pick hr (fun σ => L2N.passAt tk σ) (pa_cons (pv 0) (pa_cons (pe_callB call_len (by rfl) T.n_len PySem.boot_len (pa_cons (pv 1) pa_nil)) pa_nil))) (fun _ _ => rfl)))),
      (SOk.ret (TOk.op2 (opS 1) (opT (TOk.call (AgOk.cons (opS 0) (AgOk.cons (opT (TOk.cb1 (opS 1) g_len)) AgOk.nil)))) g_ix)), by decide⟩
abbrev s__law_same : Stmt := topS 30
theorem sc__law_same : FnScope ["answer", "due", "key", "k"] ["answer", "due"] (defScope s__law_same) := ⟨rfl, rfl, rfl, by decide +kernel, rfl, by decide +kernel, by decide +kernel⟩
def b__law_same (m_rec : List D → FRes) : M Flw :=
    (seqM (ifM (asB (ev2 (.slot 1) (.tmp (pure .non)) oIs))
    (retM (ev2 (.slot 0) (.tmp (pure .non)) oIs))
    (pure .nx))
    (seqM (ifM (evT (.tmp (ev1 (.slot 1) (oIsi "str"))))
    (retM (andV (ev1 (.slot 0) (oIsi "str")) (ev2 (.slot 0) (.slot 1) oEq)))
    (pure .nx))
    (seqM (ifM (evT (.tmp (ev1 (.slot 1) (oIsi "int"))))
    (retM (andV (ev1 (.slot 0) (oIsi "int")) (andV (ev2 (.tmp (ev1 (.slot 0) (oIsi "bool"))) (.tmp (ev1 (.slot 1) (oIsi "bool"))) oEq) (ev2 (.slot 0) (.slot 1) oEq))))
    (pure .nx))
    (seqM (ifM (evT (.tmp (ev1 (.slot 1) (oIsi "dict"))))
    (seqM badM
    badM)
    (pure .nx))
    (seqM (ifM (orT (asB (ev2 (.tmp (ev1 (.slot 1) (oIsi "tuple"))) (.tmp (ev1 (.slot 0) (oIsi "tuple"))) oNe)) (asB (ev2 (.tmp (ev1 (.slot 1) (oIsi "list"))) (.tmp (ev1 (.slot 0) (oIsi "list"))) oNe)))
    (retM (pure (.bl false)))
    (pure .nx))
    (retM (andV (ev2 (.tmp (ev1 (.slot 0) oLen)) (.tmp (ev1 (.slot 1) oLen)) oEq) (ev1 (.tmp (lcR1 [3] (consM (ev1 (.slot 1) oLen) (pure [])) (stv 3) (pure true) (callE2 m_rec 0 3 1 3))) oAll))))))))
def m__law_same : Nat → List D → FRes
  | 0 => fun _ => .bad
  | n + 1 => defF 4 [true, true] (b__law_same (m__law_same n))
theorem ok__law_same (T : Txt P K mg) : ∀ n, DefAt P w K mg base (1 + n) "_law_same" ["answer", "due"] (spF (cnOf K) [true, true] (m__law_same n))
  | 0 => def_bad T.l__law_same rfl
  | n + 1 => by
    have G__law_same := ok__law_same T n
    refine def_mk (k := 1 + n) T.l__law_same sc__law_same rfl fun f cdv A outer s H E hr => ?_
    have tk : L2N.Takes (cxOf (L2N.CX P w) P w K mg base ["answer", "due", "key", "k"] "_law_same" (defScope s__law_same) f cdv A outer s H E) (fun cls d _ H => E cls d H) := L2N.takes_of rfl rfl rfl rfl
    exact ⟨_, _, (pss_cons (ps_if (pt_cmpR op_isN (pv 1) pe_non (nomark _))
      (pss_one (ps_ret (pe_cmpR op_isN (pv 0) pe_non (nomark _))))
      pss_nil)
      (pss_cons (ps_if (pt_truth (pe_callB call_isi (by rfl) T.n_isinstance (by decide +kernel) (pa_cons (pv 1) (pa_cons (pe_bltn (v := .ty "str") (by rfl) T.n_str (by decide +kernel) rfl) pa_nil))) (by intro _; rfl))
      (pss_one (ps_ret (pe_and (pe_callB call_isi (by rfl) T.n_isinstance (by decide +kernel) (pa_cons (pv 0) (pa_cons (pe_bltn (v := .ty "str") (by rfl) T.n_str (by decide +kernel) rfl) pa_nil))) (pe_one (pe_cmpR (op_eqD hr.units) (pv 0) (pv 1) (nomark _))))))
      pss_nil)
      (pss_cons (ps_if (pt_truth (pe_callB call_isi (by rfl) T.n_isinstance (by decide +kernel) (pa_cons (pv 1) (pa_cons (pe_bltn (v := .ty "int") (by rfl) T.n_int (by decide +kernel) rfl) pa_nil))) (by intro _; rfl))
      (pss_one (ps_ret (pe_and (pe_callB call_isi (by rfl) T.n_isinstance (by decide +kernel) (pa_cons (pv 0) (pa_cons (pe_bltn (v := .ty "int") (by rfl) T.n_int (by decide +kernel) rfl) pa_nil))) (pe_and (pe_cmpR (op_eqD hr.units) (pe_callB call_isi (by rfl) T.n_isinstance (by decide +kernel) (pa_cons (pv 0) (pa_cons (pe_bltn (v := .ty "bool") (by rfl) T.n_bool (by decide +kernel) rfl) pa_nil))) (pe_callB call_isi (by rfl) T.n_isinstance (by decide +kernel) (pa_cons (pv 1) (pa_cons (pe_bltn (v := .ty "bool") (by rfl) T.n_bool (by decide +kernel) rfl) pa_nil))) (nomark _)) (pe_one (pe_cmpR (op_eqD hr.units) (pv 0) (pv 1) (nomark _)))))))
      pss_nil)
      (pss_cons (ps_if (pt_truth (pe_callB call_isi (by rfl) T.n_isinstance (by decide +kernel) (pa_cons (pv 1) (pa_cons (pe_bltn (v := .ty "dict") (by rfl) T.n_dict (by decide +kernel) rfl) pa_nil))) (by intro _; rfl))
      (pss_cons ps_dead
      (pss_one ps_dead))
      pss_nil)
      (pss_cons (ps_if (PW.pt (pw_or (pt_cmpR (op_neD hr.units) (pe_callB call_isi (by rfl) T.n_isinstance (by decide +kernel) (pa_cons (pv 1) (pa_cons (pe_bltn (v := .ty "tuple") (by rfl) T.n_tuple (by decide +kernel) rfl) pa_nil))) (pe_callB call_isi (by rfl) T.n_isinstance (by decide +kernel) (pa_cons (pv 0) (pa_cons (pe_bltn (v := .ty "tuple") (by rfl) T.n_tuple (by decide +kernel) rfl) pa_nil))) (nomark _)) (pw_or1 (pt_cmpR (op_neD hr.units) (pe_callB call_isi (by rfl) T.n_isinstance (by decide +kernel) (pa_cons (pv 1) (pa_cons (pe_bltn (v := .ty "list") (by rfl) T.n_list (by decide +kernel) rfl) pa_nil))) (pe_callB call_isi (by rfl) T.n_isinstance (by decide +kernel) (pa_cons (pv 0) (pa_cons (pe_bltn (v := .ty "list") (by rfl) T.n_list (by decide +kernel) rfl) pa_nil))) (nomark _)))))
      (pss_one (ps_ret pe_bl))
      pss_nil)
      (pss_one (ps_ret (pe_and (pe_cmpR (op_eqD hr.units) (pe_callB call_len (by rfl) T.n_len PySem.boot_len (pa_cons (pv 0) pa_nil)) (pe_callB call_len (by rfl) T.n_len PySem.boot_len (pa_cons (pv 1) pa_nil)) (nomark _)) (pe_one (pe_callB (cr_all rfl) (by rfl) T.n_all (by decide +kernel) (pa_cons (pe_lc (own := [("k", 3)]) rfl sc__law_same.nd (pi_range1 rfl T.n_range (pa_cons (pe_callB call_len (by rfl) T.n_len PySem.boot_len (pa_cons (pv 1) pa_nil)) pa_nil)) (blkOk_by (by kernel_rfl)) (fun _ _ _ _ _ => (pg_name (i := 3) sc__law_same.nd rfl (by first | exact .inl rfl | exact .inr rfl))) (fun _ _ _ _ _ => pts_nil)
      (fun _ _ _ _ _ => (pe_cd (hk := Nat.le_refl _) G__law_same hr (fun σ => passF σ) (pa_cons (pe_ix ix_seq (pv 0) (pv 3) (fun _ _ => rfl)) (pa_cons (pe_ix ix_seq (pv 1) (pv 3) (fun _ _ => rfl)) pa_nil))))) pa_nil))))))))))),
      (SOk.seq (SOk.ifS (TtOk.test (TOk.op2 (opS 1) (opT TOk.cN) g_is))
      (SOk.ret (TOk.op2 (opS 0) (opT TOk.cN) g_is))
      SOk.next)
      (SOk.seq (SOk.ifS (TtOk.truth (opT (TOk.isi (opS 1))))
      (SOk.ret (TOk.andV (TOk.isi (opS 0)) (TOk.op2 (opS 0) (opS 1) g_eq)))
      SOk.next)
      (SOk.seq (SOk.ifS (TtOk.truth (opT (TOk.isi (opS 1))))
      (SOk.ret (TOk.andV (TOk.isi (opS 0)) (TOk.andV (TOk.op2 (opT (TOk.isi (opS 0))) (opT (TOk.isi (opS 1))) g_eq) (TOk.op2 (opS 0) (opS 1) g_eq))))
      SOk.next)
      (SOk.seq (SOk.ifS (TtOk.truth (opT (TOk.isi (opS 1))))
      (SOk.seq SOk.dead
      SOk.dead)
      SOk.next)
      (SOk.seq (SOk.ifS (TtOk.or (TtOk.test (TOk.op2 (opT (TOk.isi (opS 1))) (opT (TOk.isi (opS 0))) g_ne)) (TtOk.test (TOk.op2 (opT (TOk.isi (opS 1))) (opT (TOk.isi (opS 0))) g_ne)))
      (SOk.ret TOk.cB)
      SOk.next)
      (SOk.ret (TOk.andV (TOk.op2 (opT (TOk.cb1 (opS 0) g_len)) (opT (TOk.cb1 (opS 1) g_len)) g_eq) (TOk.cb1 (opT (TOk.lcR1 (vs := [3]) (TaOk.cons (TOk.cb1 (opS 1) g_len) TaOk.nil) (GOk.name (i := 3)) TtOk.yes TOk.callE2)) g_all)))))))), by decide⟩
abbrev s__law_fault : Stmt := topS 31
theorem sc__law_fault : FnScope ["error", "out"] ["error"] (defScope s__law_fault) := ⟨rfl, rfl, rfl, by decide +kernel, rfl, by decide +kernel, by decide +kernel⟩
def g__law_fault (x : Exn) : M Flw :=
    (seqM (asgM (lstM (pure [])) (stv 1))
    (seqM (ifM (evT (.tmp (isxM et0 x 0 ans_TooMany)))
    (dropM (appM 1 (tupM (consM (pure (.str (PySem.Str.ofString "TooMany"))) (consM (fldM et0 x 0 "what") (pure []))))))
    (pure .nx))
    (seqM (ifM (evT (.tmp (isxM et0 x 0 ans_BadNet)))
    (dropM (appM 1 (tupM (consM (pure (.str (PySem.Str.ofString "BadNet"))) (consM (fldM et0 x 0 "what") (consM (fldM et0 x 0 "number") (pure [])))))))
    (pure .nx))
    (seqM (ifM (evT (.tmp (isxM et0 x 0 ans_BadLots)))
    (dropM (appM 1 (tupM (consM (pure (.str (PySem.Str.ofString "BadLots"))) (consM (fldM et0 x 0 "what") (consM (fldM et0 x 0 "row") (pure [])))))))
    (pure .nx))
    (seqM (ifM (evT (.tmp (isxM et0 x 0 ans_BadWant)))
    (dropM (appM 1 (tupM (consM (pure (.str (PySem.Str.ofString "BadWant"))) (consM (fldM et0 x 0 "what") (consM (fldM et0 x 0 "place") (pure [])))))))
    (pure .nx))
    (seqM (ifM (evT (.tmp (isxM et0 x 0 ans_BadOutage)))
    (dropM (appM 1 (tupM (consM (pure (.str (PySem.Str.ofString "BadOutage"))) (consM (fldM et0 x 0 "row") (pure []))))))
    (pure .nx))
    (seqM (ifM (evT (.tmp (isxM et0 x 0 ans_BadStanding)))
    (dropM (appM 1 (tupM (consM (pure (.str (PySem.Str.ofString "BadStanding"))) (consM (fldM et0 x 0 "valve") (pure []))))))
    (pure .nx))
    (seqM (ifM (evT (.tmp (isxM et0 x 0 ans_Unsafe)))
    (dropM (appM 1 (tupM (consM (pure (.str (PySem.Str.ofString "Unsafe"))) (consM (fldM et0 x 0 "word") (pure []))))))
    (pure .nx))
    (seqM (ifM (evT (.tmp (isxM et0 x 0 ans_BadTask)))
    (dropM (appM 1 (tupM (consM (pure (.str (PySem.Str.ofString "BadTask"))) (consM (fldM et0 x 0 "what") (pure []))))))
    (pure .nx))
    (seqM (ifM (evT (.tmp (isxM et0 x 0 ans_BadAsk)))
    (dropM (appM 1 (tupM (consM (pure (.str (PySem.Str.ofString "BadAsk"))) (consM (fldM et0 x 0 "ask") (pure []))))))
    (pure .nx))
    (seqM (ifM (evT (.tmp (isxM et0 x 0 ans_BadPlan)))
    (dropM (appM 1 (tupM (consM (pure (.str (PySem.Str.ofString "BadPlan"))) (consM (fldM et0 x 0 "bell") (pure []))))))
    (pure .nx))
    (seqM (ifM (evT (.tmp (isxM et0 x 0 ans_BadLook)))
    (dropM (appM 1 (tupM (consM (pure (.str (PySem.Str.ofString "BadLook"))) (consM (fldM et0 x 0 "row") (pure []))))))
    (pure .nx))
    (seqM (ifM (evT (.tmp (isxM et0 x 0 ans_BadCourse)))
    (dropM (appM 1 (tupM (consM (pure (.str (PySem.Str.ofString "BadCourse"))) (consM (fldM et0 x 0 "act") (pure []))))))
    (pure .nx))
    (seqM (ifM (evT (.tmp (isxM et0 x 0 ans_BadText)))
    (dropM (appM 1 (tupM (consM (pure (.str (PySem.Str.ofString "BadText"))) (consM (fldM et0 x 0 "line") (pure []))))))
    (pure .nx))
    (seqM (ifM (evT (.tmp (isxM et0 x 0 ans_BadDeed)))
    (dropM (appM 1 (tupM (consM (pure (.str (PySem.Str.ofString "BadDeed"))) (consM (fldM et0 x 0 "what") (pure []))))))
    (pure .nx))
    (retM (ifV (andT (asB (ev2 (.tmp (ev1 (.slot 1) oLen)) (.tmp (pure (.int 1))) oEq)) (evT (.tmp (isxM et0 x 0 ans_WorksError)))) (ev2 (.slot 1) (.tmp (pure (.int 0))) oIx) (tupM (consM (pure (.str (PySem.Str.ofString "several"))) (consM (ev1 (.slot 1) oLen) (pure [])))))))))))))))))))))
def m__law_fault (x : Exn) : List D → FRes := defX 2 [false] (g__law_fault x)
theorem ok__law_fault (T : Txt P K mg) : DefHot P w K mg base (clsOf K) 1 "_law_fault" ["error"] [false] m__law_fault := by
  refine def_mkX (k := 0) T.l__law_fault sc__law_fault rfl fun f cdv A outer s H E a oe cls d kp x hr hz hf hh => ?_
  exact ⟨_, _, (pss_cons (ps_set (i := 1) sc__law_fault.nd rfl (by first | exact .inl rfl | exact .inr rfl) (pe_lst pa_nil))
      (pss_cons (ps_if (pt_truth (pe_callB (call_isX List.mem_cons_self hz hf) (by rfl) T.n_isinstance (by decide +kernel) (pa_cons (pv 0) (pa_cons (pe_glob (v := .ref (He.ga K "TooMany")) (by rfl) T.g_TooMany rfl) pa_nil))) (by intro _; rfl))
      (pss_one (ps_expr (pe_bm PySem.F.plainAttrs_list PySem.F.slot_list_append PySem.F.type_list_append mt_append (pv 1) (pa_cons (pe_tup (pa_cons pe_str (pa_cons (pe_xfA List.mem_cons_self hz hf (pv 0)) pa_nil))) pa_nil))))
      pss_nil)
      (pss_cons (ps_if (pt_truth (pe_callB (call_isX List.mem_cons_self hz hf) (by rfl) T.n_isinstance (by decide +kernel) (pa_cons (pv 0) (pa_cons (pe_glob (v := .ref (He.ga K "BadNet")) (by rfl) T.g_BadNet rfl) pa_nil))) (by intro _; rfl))
      (pss_one (ps_expr (pe_bm PySem.F.plainAttrs_list PySem.F.slot_list_append PySem.F.type_list_append mt_append (pv 1) (pa_cons (pe_tup (pa_cons pe_str (pa_cons (pe_xfA List.mem_cons_self hz hf (pv 0)) (pa_cons (pe_xfA List.mem_cons_self hz hf (pv 0)) pa_nil)))) pa_nil))))
      pss_nil)
      (pss_cons (ps_if (pt_truth (pe_callB (call_isX List.mem_cons_self hz hf) (by rfl) T.n_isinstance (by decide +kernel) (pa_cons (pv 0) (pa_cons (pe_glob (v := .ref (He.ga K "BadLots")) (by rfl) T.g_BadLots rfl) pa_nil))) (by intro _; rfl))
      (pss_one (ps_expr (pe_bm PySem.F.plainAttrs_list PySem.F.slot_list_append PySem.F.type_list_append mt_append (pv 1) (pa_cons (pe_tup (pa_cons pe_str (pa_cons (pe_xfA List.mem_cons_self hz hf (pv 0)) (pa_cons (pe_xfA List.mem_cons_self hz hf (pv 0)) pa_nil)))) pa_nil))))
      pss_nil)
      (pss_cons (ps_if (pt_truth (pe_callB (call_isX List.mem_cons_self hz hf) (by rfl) T.n_isinstance (by decide +kernel) (pa_cons (pv 0) (pa_cons (pe_glob (v := .ref (He.ga K "BadWant")) (by rfl) T.g_BadWant rfl) pa_nil))) (by intro _; rfl))
      (pss_one (ps_expr (pe_bm PySem.F.plainAttrs_list PySem.F.slot_list_append PySem.F.type_list_append mt_append (pv 1) (pa_cons (pe_tup (pa_cons pe_str (pa_cons (pe_xfA List.mem_cons_self hz hf (pv 0)) (pa_cons (pe_xfA List.mem_cons_self hz hf (pv 0)) pa_nil)))) pa_nil))))
      pss_nil)
      (pss_cons (ps_if (pt_truth (pe_callB (call_isX List.mem_cons_self hz hf) (by rfl) T.n_isinstance (by decide +kernel) (pa_cons (pv 0) (pa_cons (pe_glob (v := .ref (He.ga K "BadOutage")) (by rfl) T.g_BadOutage rfl) pa_nil))) (by intro _; rfl))
      (pss_one (ps_expr (pe_bm PySem.F.plainAttrs_list PySem.F.slot_list_append PySem.F.type_list_append mt_append (pv 1) (pa_cons (pe_tup (pa_cons pe_str (pa_cons (pe_xfA List.mem_cons_self hz hf (pv 0)) pa_nil))) pa_nil))))
      pss_nil)
      (pss_cons (ps_if (pt_truth (pe_callB (call_isX List.mem_cons_self hz hf) (by rfl) T.n_isinstance (by decide +kernel) (pa_cons (pv 0) (pa_cons (pe_glob (v := .ref (He.ga K "BadStanding")) (by rfl) T.g_BadStanding rfl) pa_nil))) (by intro _; rfl))
      (pss_one (ps_expr (pe_bm PySem.F.plainAttrs_list PySem.F.slot_list_append PySem.F.type_list_append mt_append (pv 1) (pa_cons (pe_tup (pa_cons pe_str (pa_cons (pe_xfA List.mem_cons_self hz hf (pv 0)) pa_nil))) pa_nil))))
      pss_nil)
      (pss_cons (ps_if (pt_truth (pe_callB (call_isX List.mem_cons_self hz hf) (by rfl) T.n_isinstance (by decide +kernel) (pa_cons (pv 0) (pa_cons (pe_glob (v := .ref (He.ga K "Unsafe")) (by rfl) T.g_Unsafe rfl) pa_nil))) (by intro _; rfl))
      (pss_one (ps_expr (pe_bm PySem.F.plainAttrs_list PySem.F.slot_list_append PySem.F.type_list_append mt_append (pv 1) (pa_cons (pe_tup (pa_cons pe_str (pa_cons (pe_xfA List.mem_cons_self hz hf (pv 0)) pa_nil))) pa_nil))))
      pss_nil)
      (pss_cons (ps_if (pt_truth (pe_callB (call_isX List.mem_cons_self hz hf) (by rfl) T.n_isinstance (by decide +kernel) (pa_cons (pv 0) (pa_cons (pe_glob (v := .ref (He.ga K "BadTask")) (by rfl) T.g_BadTask rfl) pa_nil))) (by intro _; rfl))
      (pss_one (ps_expr (pe_bm PySem.F.plainAttrs_list PySem.F.slot_list_append PySem.F.type_list_append mt_append (pv 1) (pa_cons (pe_tup (pa_cons pe_str (pa_cons (pe_xfA List.mem_cons_self hz hf (pv 0)) pa_nil))) pa_nil))))
      pss_nil)
      (pss_cons (ps_if (pt_truth (pe_callB (call_isX List.mem_cons_self hz hf) (by rfl) T.n_isinstance (by decide +kernel) (pa_cons (pv 0) (pa_cons (pe_glob (v := .ref (He.ga K "BadAsk")) (by rfl) T.g_BadAsk rfl) pa_nil))) (by intro _; rfl))
      (pss_one (ps_expr (pe_bm PySem.F.plainAttrs_list PySem.F.slot_list_append PySem.F.type_list_append mt_append (pv 1) (pa_cons (pe_tup (pa_cons pe_str (pa_cons (pe_xfA List.mem_cons_self hz hf (pv 0)) pa_nil))) pa_nil))))
      pss_nil)
      (pss_cons (ps_if (pt_truth (pe_callB (call_isX List.mem_cons_self hz hf) (by rfl) T.n_isinstance (by decide +kernel) (pa_cons (pv 0) (pa_cons (pe_glob (v := .ref (He.ga K "BadPlan")) (by rfl) T.g_BadPlan rfl) pa_nil))) (by intro _; rfl))
      (pss_one (ps_expr (pe_bm PySem.F.plainAttrs_list PySem.F.slot_list_append PySem.F.type_list_append mt_append (pv 1) (pa_cons (pe_tup (pa_cons pe_str (pa_cons (pe_xfA List.mem_cons_self hz hf (pv 0)) pa_nil))) pa_nil))))
      pss_nil)
      (pss_cons (ps_if (pt_truth (pe_callB (call_isX List.mem_cons_self hz hf) (by rfl) T.n_isinstance (by decide +kernel) (pa_cons (pv 0) (pa_cons (pe_glob (v := .ref (He.ga K "BadLook")) (by rfl) T.g_BadLook rfl) pa_nil))) (by intro _; rfl))
      (pss_one (ps_expr (pe_bm PySem.F.plainAttrs_list PySem.F.slot_list_append PySem.F.type_list_append mt_append (pv 1) (pa_cons (pe_tup (pa_cons pe_str (pa_cons (pe_xfA List.mem_cons_self hz hf (pv 0)) pa_nil))) pa_nil))))
      pss_nil)
      (pss_cons (ps_if (pt_truth (pe_callB (call_isX List.mem_cons_self hz hf) (by rfl) T.n_isinstance (by decide +kernel) (pa_cons (pv 0) (pa_cons (pe_glob (v := .ref (He.ga K "BadCourse")) (by rfl) T.g_BadCourse rfl) pa_nil))) (by intro _; rfl))
      (pss_one (ps_expr (pe_bm PySem.F.plainAttrs_list PySem.F.slot_list_append PySem.F.type_list_append mt_append (pv 1) (pa_cons (pe_tup (pa_cons pe_str (pa_cons (pe_xfA List.mem_cons_self hz hf (pv 0)) pa_nil))) pa_nil))))
      pss_nil)
      (pss_cons (ps_if (pt_truth (pe_callB (call_isX List.mem_cons_self hz hf) (by rfl) T.n_isinstance (by decide +kernel) (pa_cons (pv 0) (pa_cons (pe_glob (v := .ref (He.ga K "BadText")) (by rfl) T.g_BadText rfl) pa_nil))) (by intro _; rfl))
      (pss_one (ps_expr (pe_bm PySem.F.plainAttrs_list PySem.F.slot_list_append PySem.F.type_list_append mt_append (pv 1) (pa_cons (pe_tup (pa_cons pe_str (pa_cons (pe_xfA List.mem_cons_self hz hf (pv 0)) pa_nil))) pa_nil))))
      pss_nil)
      (pss_cons (ps_if (pt_truth (pe_callB (call_isX List.mem_cons_self hz hf) (by rfl) T.n_isinstance (by decide +kernel) (pa_cons (pv 0) (pa_cons (pe_glob (v := .ref (He.ga K "BadDeed")) (by rfl) T.g_BadDeed rfl) pa_nil))) (by intro _; rfl))
      (pss_one (ps_expr (pe_bm PySem.F.plainAttrs_list PySem.F.slot_list_append PySem.F.type_list_append mt_append (pv 1) (pa_cons (pe_tup (pa_cons pe_str (pa_cons (pe_xfA List.mem_cons_self hz hf (pv 0)) pa_nil))) pa_nil))))
      pss_nil)
      (pss_one (ps_ret (pe_ifExp (PW.pt (pw_and (pt_cmpR (op_eqD hr.units) (pe_callB call_len (by rfl) T.n_len PySem.boot_len (pa_cons (pv 1) pa_nil)) pe_int (nomark _)) (pw_and1 (pt_truth (pe_callB (call_isX List.mem_cons_self hz hf) (by rfl) T.n_isinstance (by decide +kernel) (pa_cons (pv 0) (pa_cons (pe_glob (v := .ref (He.ga K "WorksError")) (by rfl) T.g_WorksError rfl) pa_nil))) (by intro _; rfl))))) (pe_ix ix_seq (pv 1) pe_int (fun _ _ => rfl)) (pe_tup (pa_cons pe_str (pa_cons (pe_callB call_len (by rfl) T.n_len PySem.boot_len (pa_cons (pv 1) pa_nil)) pa_nil))))))))))))))))))))),
      (SOk.seq (SOk.asg (TOk.lst TaOk.nil) (GOk.name (i := 1)))
      (SOk.seq (SOk.ifS (TtOk.truth (opT (TOk.isX (ans := ans_TooMany) hh T.et T.k_TooMany)))
      (SOk.drop (TOk.append (TOk.tup (TaOk.cons TOk.cS (TaOk.cons (TOk.fld (n := "what") hh T.et) TaOk.nil)))))
      SOk.next)
      (SOk.seq (SOk.ifS (TtOk.truth (opT (TOk.isX (ans := ans_BadNet) hh T.et T.k_BadNet)))
      (SOk.drop (TOk.append (TOk.tup (TaOk.cons TOk.cS (TaOk.cons (TOk.fld (n := "what") hh T.et) (TaOk.cons (TOk.fld (n := "number") hh T.et) TaOk.nil))))))
      SOk.next)
      (SOk.seq (SOk.ifS (TtOk.truth (opT (TOk.isX (ans := ans_BadLots) hh T.et T.k_BadLots)))
      (SOk.drop (TOk.append (TOk.tup (TaOk.cons TOk.cS (TaOk.cons (TOk.fld (n := "what") hh T.et) (TaOk.cons (TOk.fld (n := "row") hh T.et) TaOk.nil))))))
      SOk.next)
      (SOk.seq (SOk.ifS (TtOk.truth (opT (TOk.isX (ans := ans_BadWant) hh T.et T.k_BadWant)))
      (SOk.drop (TOk.append (TOk.tup (TaOk.cons TOk.cS (TaOk.cons (TOk.fld (n := "what") hh T.et) (TaOk.cons (TOk.fld (n := "place") hh T.et) TaOk.nil))))))
      SOk.next)
      (SOk.seq (SOk.ifS (TtOk.truth (opT (TOk.isX (ans := ans_BadOutage) hh T.et T.k_BadOutage)))
      (SOk.drop (TOk.append (TOk.tup (TaOk.cons TOk.cS (TaOk.cons (TOk.fld (n := "row") hh T.et) TaOk.nil)))))
      SOk.next)
      (SOk.seq (SOk.ifS (TtOk.truth (opT (TOk.isX (ans := ans_BadStanding) hh T.et T.k_BadStanding)))
      (SOk.drop (TOk.append (TOk.tup (TaOk.cons TOk.cS (TaOk.cons (TOk.fld (n := "valve") hh T.et) TaOk.nil)))))
      SOk.next)
      (SOk.seq (SOk.ifS (TtOk.truth (opT (TOk.isX (ans := ans_Unsafe) hh T.et T.k_Unsafe)))
      (SOk.drop (TOk.append (TOk.tup (TaOk.cons TOk.cS (TaOk.cons (TOk.fld (n := "word") hh T.et) TaOk.nil)))))
      SOk.next)
      (SOk.seq (SOk.ifS (TtOk.truth (opT (TOk.isX (ans := ans_BadTask) hh T.et T.k_BadTask)))
      (SOk.drop (TOk.append (TOk.tup (TaOk.cons TOk.cS (TaOk.cons (TOk.fld (n := "what") hh T.et) TaOk.nil)))))
      SOk.next)
      (SOk.seq (SOk.ifS (TtOk.truth (opT (TOk.isX (ans := ans_BadAsk) hh T.et T.k_BadAsk)))
      (SOk.drop (TOk.append (TOk.tup (TaOk.cons TOk.cS (TaOk.cons (TOk.fld (n := "ask") hh T.et) TaOk.nil)))))
      SOk.next)
      (SOk.seq (SOk.ifS (TtOk.truth (opT (TOk.isX (ans := ans_BadPlan) hh T.et T.k_BadPlan)))
      (SOk.drop (TOk.append (TOk.tup (TaOk.cons TOk.cS (TaOk.cons (TOk.fld (n := "bell") hh T.et) TaOk.nil)))))
      SOk.next)
      (SOk.seq (SOk.ifS (TtOk.truth (opT (TOk.isX (ans := ans_BadLook) hh T.et T.k_BadLook)))
      (SOk.drop (TOk.append (TOk.tup (TaOk.cons TOk.cS (TaOk.cons (TOk.fld (n := "row") hh T.et) TaOk.nil)))))
      SOk.next)
      (SOk.seq (SOk.ifS (TtOk.truth (opT (TOk.isX (ans := ans_BadCourse) hh T.et T.k_BadCourse)))
      (SOk.drop (TOk.append (TOk.tup (TaOk.cons TOk.cS (TaOk.cons (TOk.fld (n := "act") hh T.et) TaOk.nil)))))
      SOk.next)
      (SOk.seq (SOk.ifS (TtOk.truth (opT (TOk.isX (ans := ans_BadText) hh T.et T.k_BadText)))
      (SOk.drop (TOk.append (TOk.tup (TaOk.cons TOk.cS (TaOk.cons (TOk.fld (n := "line") hh T.et) TaOk.nil)))))
      SOk.next)
      (SOk.seq (SOk.ifS (TtOk.truth (opT (TOk.isX (ans := ans_BadDeed) hh T.et T.k_BadDeed)))
      (SOk.drop (TOk.append (TOk.tup (TaOk.cons TOk.cS (TaOk.cons (TOk.fld (n := "what") hh T.et) TaOk.nil)))))
      SOk.next)
      (SOk.ret (TOk.ifV (TtOk.and (TtOk.test (TOk.op2 (opT (TOk.cb1 (opS 1) g_len)) (opT TOk.cI) g_eq)) (TtOk.truth (opT (TOk.isX (ans := ans_WorksError) hh T.et T.k_WorksError)))) (TOk.op2 (opS 1) (opT TOk.cI) g_ix) (TOk.tup (TaOk.cons TOk.cS (TaOk.cons (TOk.cb1 (opS 1) g_len) TaOk.nil)))))))))))))))))))), by decide⟩
abbrev s__law_a_read : Stmt := topS 32
theorem sc__law_a_read : FnScope ["kind", "word", "line", "told", "fault", "error"] ["kind", "word", "line"] (defScope s__law_a_read) := ⟨rfl, rfl, rfl, by decide +kernel, rfl, by decide +kernel, by decide +kernel⟩
def g__law_a_read : M Flw :=
    (seqM (tryM 5 tbl_WorksError (seqM (ifM (asB (ev2 (.slot 0) (.tmp (pure (.int 0))) oEq))
    (asgM (callM m_read_number [.tmp (rdv 1), .tmp (rdv 2)]) (stv 3))
    (ifM (asB (ev2 (.slot 0) (.tmp (pure (.int 1))) oEq))
    (asgM (callM m_read_set [.tmp (rdv 1), .tmp (rdv 2)]) (stv 3))
    (ifM (asB (ev2 (.slot 0) (.tmp (pure (.int 2))) oEq))
    (asgM (callM m_read_pairs [.tmp (rdv 1), .tmp (rdv 2)]) (stv 3))
    (asgM (callM m_read_row [.tmp (rdv 1), .tmp (rdv 2)]) (stv 3)))))
    (asgM (pure .non) (stv 4)))
    (fun x => (parM 3 4 (consM (pure .non) (consM (callX (m__law_fault x) 5) (pure []))))))
    (retM (tupM (consM (mvv 3) (consM (mvv 4) (pure []))))))
def m__law_a_read : List D → FRes := defF 6 [false, false, false] g__law_a_read
theorem ok__law_a_read (T : Txt P K mg) : DefAt P w K mg base 5 "_law_a_read" ["kind", "word", "line"] (spF (cnOf K) [false, false, false] m__law_a_read) := by
  have G_read_number := ok_read_number (base := base) (P := P) (w := w) T
  have G_read_set := ok_read_set (base := base) (P := P) (w := w) T
  have G_read_pairs := ok_read_pairs (base := base) (P := P) (w := w) T
  have G_read_row := ok_read_row (base := base) (P := P) (w := w) T
  have G__law_fault := ok__law_fault (base := base) (P := P) (w := w) T
  refine def_mk (k := 4) T.l__law_a_read sc__law_a_read rfl fun f cdv A outer s H E hr => ?_
  have tk : L2N.Takes (cxOf (L2N.CX P w) P w K mg base ["kind", "word", "line", "told", "fault", "error"] "_law_a_read" (defScope s__law_a_read) f cdv A outer s H E) (fun cls d _ H => E cls d H) := L2N.takes_of rfl rfl rfl rfl
  exact ⟨_, _, (pss_cons (L2N.ps_try_as (i := 5) rfl rfl sc__law_a_read.nd rfl rfl ⟨rfl, by decide, Or.inl T.g_WorksError⟩ tk (fun W pn xe tk hpo => (pss_cons (ps_if (pt_cmpR (op_eqD hr.units) (pv 0) pe_int (nomark _))
      (pss_one (ps_set (i := 3) sc__law_a_read.nd rfl (by first | exact .inl rfl | exact .inr rfl) (pe_cd G_read_number hr (fun σ => L2N.passAt tk σ) (pa_cons (pv 1) (pa_cons (pv 2) pa_nil)))))
      (pss_one (ps_if (pt_cmpR (op_eqD hr.units) (pv 0) pe_int (nomark _))
      (pss_one (ps_set (i := 3) sc__law_a_read.nd rfl (by first | exact .inl rfl | exact .inr rfl) (pe_cd G_read_set hr (fun σ => L2N.passAt tk σ) (pa_cons (pv 1) (pa_cons (pv 2) pa_nil)))))
      (pss_one (ps_if (pt_cmpR (op_eqD hr.units) (pv 0) pe_int (nomark _))
      (pss_one (ps_set (i := 3) sc__law_a_read.nd rfl (by first | exact .inl rfl | exact .inr rfl) (pe_cd G_read_pairs hr (fun σ => L2N.passAt tk σ) (pa_cons (pv 1) (pa_cons (pv 2) pa_nil)))))
      (pss_one (ps_set (i := 3) sc__law_a_read.nd rfl (by first | exact .inl rfl | exact .inr rfl) (pe_cd G_read_row hr (fun σ => L2N.passAt tk σ) (pa_cons (pv 1) (pa_cons (pv 2) pa_nil))))))))))
      (pss_one (ps_set (i := 4) sc__law_a_read.nd rfl (by first | exact .inl rfl | exact .inr rfl) pe_non))))
      (fun a oe cls d pn hz hf => (pss_one (ps_parH (i := 3) (j := 4) (hot_suite hz hf) sc__law_a_read.nd rfl rfl (by decide) rfl rfl (pa_cons pe_non (pa_cons (pe_callX G__law_fault (j := 1) (room_suite hr (by decide)) List.mem_cons_self hz.zc hf (fun σ => passF σ) (pa_cons (pv 5) pa_nil)) pa_nil)) rfl))))
      (pss_one (ps_ret (pe_tup (pa_cons (pv 3) (pa_cons (pv 4) pa_nil)))))),
      (SOk.seq (SOk.tryAs (i := 5) (tbl := tbl_WorksError) rfl (fun W => (SOk.seq (SOk.ifS (TtOk.test (TOk.op2 (opS 0) (opT TOk.cI) g_eq))
      (SOk.asg (TOk.call (AgOk.cons (opT (TOk.rd (i := 1))) (AgOk.cons (opT (TOk.rd (i := 2))) AgOk.nil))) (GOk.name (i := 3)))
      (SOk.ifS (TtOk.test (TOk.op2 (opS 0) (opT TOk.cI) g_eq))
      (SOk.asg (TOk.call (AgOk.cons (opT (TOk.rd (i := 1))) (AgOk.cons (opT (TOk.rd (i := 2))) AgOk.nil))) (GOk.name (i := 3)))
      (SOk.ifS (TtOk.test (TOk.op2 (opS 0) (opT TOk.cI) g_eq))
      (SOk.asg (TOk.call (AgOk.cons (opT (TOk.rd (i := 1))) (AgOk.cons (opT (TOk.rd (i := 2))) AgOk.nil))) (GOk.name (i := 3)))
      (SOk.asg (TOk.call (AgOk.cons (opT (TOk.rd (i := 1))) (AgOk.cons (opT (TOk.rd (i := 2))) AgOk.nil))) (GOk.name (i := 3))))))
      (SOk.asg TOk.cN (GOk.name (i := 4)))))
      (fun a cls d dd x hh => (SOk.par (TaOk.cons TOk.cN (TaOk.cons (TOk.callX hh) TaOk.nil)))) T.x_WorksError)
      (SOk.ret (TOk.tup (TaOk.cons (TOk.mv (i := 3)) (TaOk.cons (TOk.mv (i := 4)) TaOk.nil))))), by decide⟩
abbrev s__law_a_big : Stmt := topS 33
theorem sc__law_a_big : FnScope ["s", "kind", "size", "told", "k"] ["s"] (defScope s__law_a_big) := ⟨rfl, rfl, rfl, by decide +kernel, rfl, by decide +kernel, by decide +kernel⟩
def g__law_a_big : M Flw :=
    (seqM (asgM (callM m__law_pick [.slot 0, .tmp (pure (.int 6))]) (stv 1))
    (seqM (ifM (asB (ev2 (.slot 1) (.tmp (pure (.int 3))) oLt))
    (retM (callM m__law_pick [.slot 0, .tmp (pure (.int 12))]))
    (pure .nx))
    (seqM (ifM (asB (ev2 (.slot 1) (.tmp (pure (.int 5))) oLt))
    (retM (callM m__law_pick [.slot 0, .tmp (ev2 (.tmp (pure (.int 10))) (.tmp (pure (.int 6))) oPow)]))
    (pure .nx))
    (seqM (asgM (ev2 (.tmp (pure (.int 1))) (.tmp (callM m__law_pick [.slot 0, .tmp (pure (.int 40))])) oPlus) (stv 2))
    (seqM (asgM (ev2 (.tmp (pure (.int 1))) (.tmp (callM m__law_pick [.slot 0, .tmp (pure (.int 9))])) oPlus) (stv 3))
    (seqM (forR1 (consM (ev2 (.slot 2) (.tmp (pure (.int 1))) oSub) (pure [])) (stv 4)
    (asgM (ev2 (.tmp (ev2 (.slot 3) (.tmp (pure (.int 10))) oMul)) (.tmp (callM m__law_pick [.slot 0, .tmp (pure (.int 10))])) oPlus) (stv 3)))
    (retM (mvv 3))))))))
def m__law_a_big : List D → FRes := defF 5 [true] g__law_a_big
theorem ok__law_a_big (T : Txt P K mg) : DefAt P w K mg base 2 "_law_a_big" ["s"] (spF (cnOf K) [true] m__law_a_big) := by
  have G__law_pick := ok__law_pick (base := base) (P := P) (w := w) T
  refine def_mk (k := 1) T.l__law_a_big sc__law_a_big rfl fun f cdv A outer s H E hr => ?_
  have tk : L2N.Takes (cxOf (L2N.CX P w) P w K mg base ["s", "kind", "size", "told", "k"] "_law_a_big" (defScope s__law_a_big) f cdv A outer s H E) (fun cls d _ H => E cls d H) := L2N.takes_of rfl rfl rfl rfl
  exact ⟨_, _, (pss_cons (ps_set (i := 1) sc__law_a_big.nd rfl (by first | exact .inl rfl | exact .inr rfl) (pe_cd G__law_pick hr (fun σ => L2N.passAt tk σ) (pa_cons (pv 0) (pa_cons pe_int pa_nil))))
      (pss_cons (ps_if (pt_cmpR op_lt (pv 1) pe_int (nomark _))
      (pss_one (ps_ret (pe_cd G__law_pick hr (fun σ => L2N.passAt tk σ) (pa_cons (pv 0) (pa_cons pe_int pa_nil)))))
      pss_nil)
      (pss_cons (ps_if (pt_cmpR op_lt (pv 1) pe_int (nomark _))
      (pss_one (ps_ret (pe_cd G__law_pick hr (fun σ => L2N.passAt tk σ) (pa_cons (pv 0) (pa_cons (pe_op op_pow pe_int pe_int) pa_nil)))))
      pss_nil)
      (pss_cons (ps_set (i := 2) sc__law_a_big.nd rfl (by first | exact .inl rfl | exact .inr rfl) (pe_op op_plus pe_int (pe_cd G__law_pick hr (fun σ => L2N.passAt tk σ) (pa_cons (pv 0) (pa_cons pe_int pa_nil)))))
      (pss_cons (ps_set (i := 3) sc__law_a_big.nd rfl (by first | exact .inl rfl | exact .inr rfl) (pe_op op_plus pe_int (pe_cd G__law_pick hr (fun σ => L2N.passAt tk σ) (pa_cons (pv 0) (pa_cons pe_int pa_nil)))))
      (pss_cons (ps_for (passes_of rfl) rfl (pi_range1 rfl T.n_range (pa_cons (pe_op op_sub (pv 2) pe_int) pa_nil)) (pg_name (i := 4) sc__law_a_big.nd rfl (by first | exact .inl rfl | exact .inr rfl))
      (pss_one (ps_set (i := 3) sc__law_a_big.nd rfl (by first | exact .inl rfl | exact .inr rfl) (pe_op op_plus (pe_op op_mulA (pv 3) pe_int) (pe_cd G__law_pick hr (fun σ => L2N.passAt tk σ) (pa_cons (pv 0) (pa_cons pe_int pa_nil)))))))
      (pss_one (ps_ret (pv 3))))))))),
      (SOk.seq (SOk.asg (TOk.call (AgOk.cons (opS 0) (AgOk.cons (opT TOk.cI) AgOk.nil))) (GOk.name (i := 1)))
      (SOk.seq (SOk.ifS (TtOk.test (TOk.op2 (opS 1) (opT TOk.cI) g_lt))
      (SOk.ret (TOk.call (AgOk.cons (opS 0) (AgOk.cons (opT TOk.cI) AgOk.nil))))
      SOk.next)
      (SOk.seq (SOk.ifS (TtOk.test (TOk.op2 (opS 1) (opT TOk.cI) g_lt))
      (SOk.ret (TOk.call (AgOk.cons (opS 0) (AgOk.cons (opT (TOk.op2 (opT TOk.cI) (opT TOk.cI) g_pow)) AgOk.nil))))
      SOk.next)
      (SOk.seq (SOk.asg (TOk.op2 (opT TOk.cI) (opT (TOk.call (AgOk.cons (opS 0) (AgOk.cons (opT TOk.cI) AgOk.nil)))) g_plus) (GOk.name (i := 2)))
      (SOk.seq (SOk.asg (TOk.op2 (opT TOk.cI) (opT (TOk.call (AgOk.cons (opS 0) (AgOk.cons (opT TOk.cI) AgOk.nil)))) g_plus) (GOk.name (i := 3)))
      (SOk.seq (SOk.forR1 (TaOk.cons (TOk.op2 (opS 2) (opT TOk.cI) g_sub) TaOk.nil) (GOk.name (i := 4))
      (SOk.asg (TOk.op2 (opT (TOk.op2 (opS 3) (opT TOk.cI) g_mul)) (opT (TOk.call (AgOk.cons (opS 0) (AgOk.cons (opT TOk.cI) AgOk.nil)))) g_plus) (GOk.name (i := 3))))
      (SOk.ret (TOk.mv (i := 3))))))))), by decide⟩
abbrev s__law_a_rising : Stmt := topS 34
theorem sc__law_a_rising : FnScope ["s", "many", "out", "k", "fresh"] ["s", "many"] (defScope s__law_a_rising) := ⟨rfl, rfl, rfl, by decide +kernel, rfl, by decide +kernel, by decide +kernel⟩
def g__law_a_rising : M Flw :=
    (seqM (asgM (lstM (pure [])) (stv 2))
    (seqM (forR1 (consM (mvv 1) (pure [])) (stv 3)
    (seqM (asgM (callM m__law_a_big [.slot 0]) (stv 4))
    (ifM (asB (ev2 (.slot 4) (.slot 2) (oInV true)))
    (dropM (appM 2 (mvv 4)))
    (pure .nx))))
    (retM (ev1 (.slot 2) oSorted))))
def m__law_a_rising : List D → FRes := defF 5 [true, false] g__law_a_rising
theorem ok__law_a_rising (T : Txt P K mg) : DefAt P w K mg base 3 "_law_a_rising" ["s", "many"] (spF (cnOf K) [true, false] m__law_a_rising) := by
  have G__law_a_big := ok__law_a_big (base := base) (P := P) (w := w) T
  refine def_mk (k := 2) T.l__law_a_rising sc__law_a_rising rfl fun f cdv A outer s H E hr => ?_
  have tk : L2N.Takes (cxOf (L2N.CX P w) P w K mg base ["s", "many", "out", "k", "fresh"] "_law_a_rising" (defScope s__law_a_rising) f cdv A outer s H E) (fun cls d _ H => E cls d H) := L2N.takes_of rfl rfl rfl rfl
  exact ⟨_, _, (pss_cons (ps_set (i := 2) sc__law_a_rising.nd rfl (by first | exact .inl rfl | exact .inr rfl) (pe_lst pa_nil))
      (pss_cons (ps_for (passes_of rfl) rfl (pi_range1 rfl T.n_range (pa_cons (pv 1) pa_nil)) (pg_name (i := 3) sc__law_a_rising.nd rfl (by first | exact .inl rfl | exact .inr rfl))
      (pss_cons (ps_set (i := 4) sc__law_a_rising.nd rfl (by first | exact .inl rfl | exact .inr rfl) (pe_cd G__law_a_big hr (fun σ => L2N.passAt tk σ) (pa_cons (pv 0) pa_nil)))
      (pss_one (ps_if (pt_cmpR op_notIn_seq (pv 4) (pv 2) (by rfl))
      (pss_one (ps_expr (pe_bm PySem.F.plainAttrs_list PySem.F.slot_list_append PySem.F.type_list_append mt_append (pv 2) (pa_cons (pv 4) pa_nil))))
      pss_nil))))
      (pss_one (ps_ret (pe_callB cr_sortedI (by rfl) T.n_sorted (by decide +kernel) (pa_cons (pv 2) pa_nil)))))),
      (SOk.seq (SOk.asg (TOk.lst TaOk.nil) (GOk.name (i := 2)))
      (SOk.seq (SOk.forR1 (TaOk.cons (TOk.mv (i := 1)) TaOk.nil) (GOk.name (i := 3))
      (SOk.seq (SOk.asg (TOk.call (AgOk.cons (opS 0) AgOk.nil)) (GOk.name (i := 4)))
      (SOk.ifS (TtOk.test (TOk.op2 (opS 4) (opS 2) (g_inV (neg := true))))
      (SOk.drop (TOk.append (TOk.mv (i := 4))))
      SOk.next)))
      (SOk.ret (TOk.cb1 (opS 2) g_sorted)))), by decide⟩
abbrev s__law_a_right : Stmt := topS 35
theorem sc__law_a_right : FnScope ["s", "kind", "many", "told", "one", "size", "a", "b", "k"] ["s", "kind"] (defScope s__law_a_right) := ⟨rfl, rfl, rfl, by decide +kernel, rfl, by decide +kernel, by decide +kernel⟩
def g__law_a_right : M Flw :=
    (seqM (asgM (callM m__law_pick [.slot 0, .tmp (pure (.int 9))]) (stv 2))
    (seqM (ifM (asB (ev2 (.slot 1) (.tmp (pure (.int 0))) oEq))
    (seqM (asgM (callM m__law_a_big [.slot 0]) (stv 3))
    (retM (tupM (consM (rdv 3) (consM (ev1 (.slot 3) oStr) (pure []))))))
    (pure .nx))
    (seqM (ifM (asB (ev2 (.slot 1) (.tmp (pure (.int 1))) oEq))
    (seqM (asgM (callM m__law_a_rising [.slot 0, .tmp (mvv 2)]) (stv 3))
    (retM (tupM (consM (rdv 3) (consM (ifV (evT (.slot 3)) (evM1 (pure (.str (PySem.Str.ofString ","))) (.tmp (lcL [4] (rdv 3) (stv 4) (pure true) (ev1 (.slot 4) oStr))) oJoin) (pure (.str (PySem.Str.ofString "-")))) (pure []))))))
    (pure .nx))
    (seqM (ifM (asB (ev2 (.slot 1) (.tmp (pure (.int 2))) oEq))
    (seqM (asgM (lstM (pure [])) (stv 3))
    (seqM (forL (callM m__law_a_rising [.slot 0, .tmp (mvv 2)]) (stv 4)
    (seqM (asgM (callM m__law_a_big [.slot 0]) (stv 5))
    (dropM (appM 3 (tupM (consM (mvv 4) (consM (ifV (evT (.tmp (callM m__law_pick [.slot 0, .tmp (pure (.int 2))]))) (ev1 (.slot 5) oNeg) (rdv 5)) (pure []))))))))
    (retM (tupM (consM (rdv 3) (consM (ifV (evT (.slot 3)) (evM1 (pure (.str (PySem.Str.ofString ","))) (.tmp (lcL [6, 7] (rdv 3) (fun d => match d with | .tup ds => (if ds.length = 2 then (fun ds => match ds with | d :: r => (do (stv 6) d; (fun ds => match ds with | d :: r => (do (stv 7) d; (fun ds => match ds with | [] => pure () | _ => badM) r) | [] => badM) r) | [] => badM) ds else badM) | _ => badM) (pure true) (ev2 (.tmp (ev2 (.tmp (ev1 (.slot 6) oStr)) (.tmp (pure (.str (PySem.Str.ofString ":")))) oPlus)) (.tmp (ev1 (.slot 7) oStr)) oPlus))) oJoin) (pure (.str (PySem.Str.ofString "-")))) (pure [])))))))
    (pure .nx))
    (seqM (asgM (lcR1 [8] (consM (mvv 2) (pure [])) (stv 8) (pure true) (callM m__law_a_big [.slot 0])) (stv 3))
    (retM (tupM (consM (rdv 3) (consM (ifV (evT (.slot 3)) (evM1 (pure (.str (PySem.Str.ofString ">"))) (.tmp (lcL [4] (rdv 3) (stv 4) (pure true) (ev1 (.slot 4) oStr))) oJoin) (pure (.str (PySem.Str.ofString "-")))) (pure []))))))))))
def m__law_a_right : List D → FRes := defF 9 [true, false] g__law_a_right
theorem ok__law_a_right (T : Txt P K mg) : DefAt P w K mg base 4 "_law_a_right" ["s", "kind"] (spF (cnOf K) [true, false] m__law_a_right) := by
  have G__law_pick := ok__law_pick (base := base) (P := P) (w := w) T
  have G__law_a_big := ok__law_a_big (base := base) (P := P) (w := w) T
  have G__law_a_rising := ok__law_a_rising (base := base) (P := P) (w := w) T
  refine def_mk (k := 3) T.l__law_a_right sc__law_a_right rfl fun f cdv A outer s H E hr => ?_
  have tk : L2N.Takes (cxOf (L2N.CX P w) P w K mg base ["s", "kind", "many", "told", "one", "size", "a", "b", "k"] "_law_a_right" (defScope s__law_a_right) f cdv A outer s H E) (fun cls d _ H => E cls d H) := L2N.takes_of rfl rfl rfl rfl
  exact ⟨_, _, (pss_cons (ps_set (i := 2) sc__law_a_right.nd rfl (by first | exact .inl rfl | exact .inr rfl) (pe_cd G__law_pick hr (fun σ => L2N.passAt tk σ) (pa_cons (pv 0) (pa_cons pe_int pa_nil))))
      (pss_cons (ps_if (pt_cmpR (op_eqD hr.units) (pv 1) pe_int (nomark _))
      (pss_cons (ps_set (i := 3) sc__law_a_right.nd rfl (by first | exact .inl rfl | exact .inr rfl) (pe_cd G__law_a_big hr (fun σ => L2N.passAt tk σ) (pa_cons (pv 0) pa_nil)))
      (pss_one (ps_ret (pe_tup (pa_cons (pv 3) (pa_cons (pe_callTy call_str_int (by rfl) T.n_str (by decide +kernel) (pa_cons (pv 3) pa_nil)) pa_nil))))))
      pss_nil)
      (pss_cons (ps_if (pt_cmpR (op_eqD hr.units) (pv 1) pe_int (nomark _))
      (pss_cons (ps_set (i := 3) sc__law_a_right.nd rfl (by first | exact .inl rfl | exact .inr rfl) (pe_cd G__law_a_rising hr (fun σ => L2N.passAt tk σ) (pa_cons (pv 0) (pa_cons (pv 2) pa_nil))))
      (pss_one (ps_ret (pe_tup (pa_cons (pv 3) (pa_cons (pe_ifExp (pt_truth (pv 3) (by intro _; rfl)) (pe_joinK (K := K) rfl pe_str (pe_lc (own := [("one", 4)]) rfl sc__law_a_right.nd (pi_list (pv 3)) (blkOk_by (by kernel_rfl)) (fun _ _ _ _ _ => (pg_name (i := 4) sc__law_a_right.nd rfl (by first | exact .inl rfl | exact .inr rfl))) (fun _ _ _ _ _ => pts_nil)
      (fun _ _ _ _ _ => (pe_callTy call_str_int (by rfl) T.n_str (by decide +kernel) (pa_cons (pv 4) pa_nil))))) pe_str) pa_nil))))))
      pss_nil)
      (pss_cons (ps_if (pt_cmpR (op_eqD hr.units) (pv 1) pe_int (nomark _))
      (pss_cons (ps_set (i := 3) sc__law_a_right.nd rfl (by first | exact .inl rfl | exact .inr rfl) (pe_lst pa_nil))
      (pss_cons (ps_for (passes_of rfl) rfl (pi_list (pe_cd G__law_a_rising hr (fun σ => L2N.passAt tk σ) (pa_cons (pv 0) (pa_cons (pv 2) pa_nil)))) (pg_name (i := 4) sc__law_a_right.nd rfl (by first | exact .inl rfl | exact .inr rfl))
      (pss_cons (ps_set (i := 5) sc__law_a_right.nd rfl (by first | exact .inl rfl | exact .inr rfl) (pe_cd G__law_a_big hr (fun σ => L2N.passAt tk σ) (pa_cons (pv 0) pa_nil)))
      (pss_one (ps_expr (pe_bm PySem.F.plainAttrs_list PySem.F.slot_list_append PySem.F.type_list_append mt_append (pv 3) (pa_cons (pe_tup (pa_cons (pv 4) (pa_cons (pe_ifExp (pt_truth (pe_cd G__law_pick hr (fun σ => L2N.passAt tk σ) (pa_cons (pv 0) (pa_cons pe_int pa_nil))) (by intro _; rfl)) (pe_un un_neg (pv 5)) (pv 5)) pa_nil))) pa_nil))))))
      (pss_one (ps_ret (pe_tup (pa_cons (pv 3) (pa_cons (pe_ifExp (pt_truth (pv 3) (by intro _; rfl)) (pe_joinK (K := K) rfl pe_str (pe_lc (own := [("a", 6), ("b", 7)]) rfl sc__law_a_right.nd (pi_list (pv 3)) (blkOk_by (by kernel_rfl)) (fun _ _ _ _ _ => (pg_tup rfl (pgs_cons (pg_name (i := 6) sc__law_a_right.nd rfl (by first | exact .inl rfl | exact .inr rfl)) (pgs_cons (pg_name (i := 7) sc__law_a_right.nd rfl (by first | exact .inl rfl | exact .inr rfl)) pgs_nil)))) (fun _ _ _ _ _ => pts_nil)
      (fun _ _ _ _ _ => (pe_op op_plus (pe_op op_plus (pe_callTy call_str_int (by rfl) T.n_str (by decide +kernel) (pa_cons (pv 6) pa_nil)) pe_str) (pe_callTy call_str_int (by rfl) T.n_str (by decide +kernel) (pa_cons (pv 7) pa_nil)))))) pe_str) pa_nil)))))))
      pss_nil)
      (pss_cons (ps_setLc (i := 3) (own := [("k", 8)]) rfl sc__law_a_right.nd rfl rfl (sw_true rfl rfl rfl (by decide +kernel)) (pi_range1 rfl T.n_range (pa_cons (pv 2) pa_nil)) (blkOk_by (by kernel_rfl)) (fun _ _ _ _ _ => (pg_name (i := 8) sc__law_a_right.nd rfl (by first | exact .inl rfl | exact .inr rfl))) (fun _ _ _ _ _ => pts_nil)
      (fun _ _ _ _ _ => (pe_cd G__law_a_big hr (fun σ => passF σ) (pa_cons (pv 0) pa_nil))))
      (pss_one (ps_ret (pe_tup (pa_cons (pv 3) (pa_cons (pe_ifExp (pt_truth (pv 3) (by intro _; rfl)) (pe_joinK (K := K) rfl pe_str (pe_lc (own := [("one", 4)]) rfl sc__law_a_right.nd (pi_list (pv 3)) (blkOk_by (by kernel_rfl)) (fun _ _ _ _ _ => (pg_name (i := 4) sc__law_a_right.nd rfl (by first | exact .inl rfl | exact .inr rfl))) (fun _ _ _ _ _ => pts_nil)
      (fun _ _ _ _ _ => (pe_callTy call_str_int (by rfl) T.n_str (by decide +kernel) (pa_cons (pv 4) pa_nil))))) pe_str) pa_nil)))))))))),
      (SOk.seq (SOk.asg (TOk.call (AgOk.cons (opS 0) (AgOk.cons (opT TOk.cI) AgOk.nil))) (GOk.name (i := 2)))
      (SOk.seq (SOk.ifS (TtOk.test (TOk.op2 (opS 1) (opT TOk.cI) g_eq))
      (SOk.seq (SOk.asg (TOk.call (AgOk.cons (opS 0) AgOk.nil)) (GOk.name (i := 3)))
      (SOk.ret (TOk.tup (TaOk.cons (TOk.rd (i := 3)) (TaOk.cons (TOk.cb1 (opS 3) g_str) TaOk.nil)))))
      SOk.next)
      (SOk.seq (SOk.ifS (TtOk.test (TOk.op2 (opS 1) (opT TOk.cI) g_eq))
      (SOk.seq (SOk.asg (TOk.call (AgOk.cons (opS 0) (AgOk.cons (opT (TOk.mv (i := 2))) AgOk.nil))) (GOk.name (i := 3)))
      (SOk.ret (TOk.tup (TaOk.cons (TOk.rd (i := 3)) (TaOk.cons (TOk.ifV (TtOk.truth (opS 3)) (TOk.m1 TOk.cS (opT (TOk.lcL (vs := [4]) (TOk.rd (i := 3)) (GOk.name (i := 4)) TtOk.yes (TOk.cb1 (opS 4) g_str))) g_joinK) TOk.cS) TaOk.nil)))))
      SOk.next)
      (SOk.seq (SOk.ifS (TtOk.test (TOk.op2 (opS 1) (opT TOk.cI) g_eq))
      (SOk.seq (SOk.asg (TOk.lst TaOk.nil) (GOk.name (i := 3)))
      (SOk.seq (SOk.forL (TOk.call (AgOk.cons (opS 0) (AgOk.cons (opT (TOk.mv (i := 2))) AgOk.nil))) (GOk.name (i := 4))
      (SOk.seq (SOk.asg (TOk.call (AgOk.cons (opS 0) AgOk.nil)) (GOk.name (i := 5)))
      (SOk.drop (TOk.append (TOk.tup (TaOk.cons (TOk.mv (i := 4)) (TaOk.cons (TOk.ifV (TtOk.truth (opT (TOk.call (AgOk.cons (opS 0) (AgOk.cons (opT TOk.cI) AgOk.nil))))) (TOk.un (opS 5) g_neg) (TOk.rd (i := 5))) TaOk.nil)))))))
      (SOk.ret (TOk.tup (TaOk.cons (TOk.rd (i := 3)) (TaOk.cons (TOk.ifV (TtOk.truth (opS 3)) (TOk.m1 TOk.cS (opT (TOk.lcL (vs := [6, 7]) (TOk.rd (i := 3)) (GOk.tup (n := 2) (GsOk.cons (GOk.name (i := 6)) (GsOk.cons (GOk.name (i := 7)) GsOk.nil))) TtOk.yes (TOk.op2 (opT (TOk.op2 (opT (TOk.cb1 (opS 6) g_str)) (opT TOk.cS) g_plus)) (opT (TOk.cb1 (opS 7) g_str)) g_plus))) g_joinK) TOk.cS) TaOk.nil))))))
      SOk.next)
      (SOk.seq (SOk.asg (TOk.lcR1 (vs := [8]) (TaOk.cons (TOk.mv (i := 2)) TaOk.nil) (GOk.name (i := 8)) TtOk.yes (TOk.call (AgOk.cons (opS 0) AgOk.nil))) (GOk.name (i := 3)))
      (SOk.ret (TOk.tup (TaOk.cons (TOk.rd (i := 3)) (TaOk.cons (TOk.ifV (TtOk.truth (opS 3)) (TOk.m1 TOk.cS (opT (TOk.lcL (vs := [4]) (TOk.rd (i := 3)) (GOk.name (i := 4)) TtOk.yes (TOk.cb1 (opS 4) g_str))) g_joinK) TOk.cS) TaOk.nil))))))))), by decide⟩
abbrev s__law_a_nearly : Stmt := topS 36
theorem sc__law_a_nearly : FnScope ["s", "kind", "a", "long", "b", "k", "x", "y", "rows"] ["s", "kind"] (defScope s__law_a_nearly) := ⟨rfl, rfl, rfl, by decide +kernel, rfl, by decide +kernel, by decide +kernel⟩
def g__law_a_nearly : M Flw :=
    (seqM (parM 2 3 (consM (ev2 (.tmp (pure (.int 1))) (.tmp (callM m__law_a_big [.slot 0])) oPlus) (consM (ev1 (.tmp (ev2 (.tmp (pure (.int 1))) (.tmp (callM m__law_pick [.slot 0, .tmp (pure (.int 9))])) oPlus)) oStr) (pure []))))
    (seqM (asgM (ev2 (.tmp (ev2 (.slot 2) (.tmp (pure (.int 1))) oPlus)) (.tmp (callM m__law_pick [.slot 0, .tmp (pure (.int 9))])) oPlus) (stv 4))
    (seqM (forR1 (consM (pure (.int 40)) (pure [])) (stv 5)
    (asgM (ev2 (.slot 3) (.tmp (ev1 (.tmp (callM m__law_pick [.slot 0, .tmp (pure (.int 10))])) oStr)) oPlus) (stv 3)))
    (seqM (parM 6 7 (consM (ev1 (.slot 2) oStr) (consM (ev1 (.slot 4) oStr) (pure []))))
    (seqM (ifM (asB (ev2 (.tmp (ev1 (.slot 7) oLen)) (.tmp (pure (.int 40))) oGt))
    (asgM (tupM (consM (pure (.str (PySem.Str.ofString "7"))) (consM (pure (.str (PySem.Str.ofString "8"))) (pure [])))) (fun d => match d with | .tup ds => (if ds.length = 2 then (fun ds => match ds with | d :: r => (do (stv 6) d; (fun ds => match ds with | d :: r => (do (stv 7) d; (fun ds => match ds with | [] => pure () | _ => badM) r) | [] => badM) r) | [] => badM) ds else badM) | _ => badM))
    (pure .nx))
    (seqM (ifM (asB (ev2 (.slot 1) (.tmp (pure (.int 0))) oEq))
    (retM (callM m__law_one [.slot 0, .tmp (lstM (consM (ev2 (.tmp (pure (.str (PySem.Str.ofString "0")))) (.slot 6) oPlus) (consM (pure (.str (PySem.Str.ofString "00"))) (consM (pure (.str (PySem.Str.ofString "-0"))) (consM (ev2 (.tmp (pure (.str (PySem.Str.ofString "-")))) (.slot 6) oPlus) (consM (pure (.str (PySem.Str.ofString ""))) (consM (ev2 (.tmp (ev2 (.slot 6) (.tmp (pure (.str (PySem.Str.ofString ",")))) oPlus)) (.slot 7) oPlus) (consM (ev2 (.tmp (ev2 (.slot 6) (.tmp (pure (.str (PySem.Str.ofString ":")))) oPlus)) (.slot 7) oPlus) (consM (pure (.str (PySem.Str.ofString "a"))) (consM (ev2 (.slot 6) (.tmp (pure (.str (PySem.Str.ofString "a")))) oPlus) (consM (pure (.str (PySem.Str.ofString "-"))) (consM (ev2 (.tmp (ev2 (.slot 6) (.tmp (pure (.str (PySem.Str.ofString ">")))) oPlus)) (.slot 7) oPlus) (consM (mvv 3) (pure []))))))))))))))]))
    (pure .nx))
    (seqM (ifM (asB (ev2 (.slot 1) (.tmp (pure (.int 1))) oEq))
    (seqM (asgM (lstM (consM (ev2 (.tmp (ev2 (.slot 7) (.tmp (pure (.str (PySem.Str.ofString ",")))) oPlus)) (.slot 6) oPlus) (consM (ev2 (.tmp (ev2 (.slot 6) (.tmp (pure (.str (PySem.Str.ofString ",")))) oPlus)) (.slot 6) oPlus) (consM (ev2 (.slot 6) (.tmp (pure (.str (PySem.Str.ofString ",")))) oPlus) (consM (ev2 (.tmp (pure (.str (PySem.Str.ofString ",")))) (.slot 6) oPlus) (consM (pure (.str (PySem.Str.ofString ""))) (consM (pure (.str (PySem.Str.ofString "--"))) (consM (ev2 (.tmp (ev2 (.slot 6) (.tmp (pure (.str (PySem.Str.ofString ":")))) oPlus)) (.slot 7) oPlus) (consM (ev2 (.tmp (pure (.str (PySem.Str.ofString "0")))) (.slot 6) oPlus) (consM (ev2 (.tmp (pure (.str (PySem.Str.ofString "-,")))) (.slot 6) oPlus) (consM (ev2 (.tmp (ev2 (.slot 6) (.tmp (pure (.str (PySem.Str.ofString ",,")))) oPlus)) (.slot 7) oPlus) (pure [])))))))))))) (stv 8))
    (retM (callM m__law_one [.slot 0, .tmp (ev2 (.slot 8) (.tmp (lstM (consM (ev2 (.tmp (pure (.str (PySem.Str.ofString "-")))) (.slot 6) oPlus) (consM (ev2 (.tmp (ev2 (.slot 6) (.tmp (pure (.str (PySem.Str.ofString ",0")))) oPlus)) (.slot 7) oPlus) (consM (ev2 (.tmp (ev2 (.slot 6) (.tmp (pure (.str (PySem.Str.ofString ">")))) oPlus)) (.slot 7) oPlus) (consM (pure (.str (PySem.Str.ofString "00"))) (consM (ev2 (.tmp (ev2 (.slot 6) (.tmp (pure (.str (PySem.Str.ofString ",")))) oPlus)) (.slot 3) oPlus) (consM (ev2 (.tmp (ev2 (.tmp (pure (.str (PySem.Str.ofString "0,")))) (.slot 6) oPlus)) (.tmp (pure (.str (PySem.Str.ofString ",0")))) oPlus) (pure []))))))))) oPlus)])))
    (pure .nx))
    (seqM (ifM (asB (ev2 (.slot 1) (.tmp (pure (.int 2))) oEq))
    (seqM (asgM (lstM (consM (rdv 6) (consM (ev2 (.tmp (ev2 (.tmp (ev2 (.tmp (ev2 (.tmp (ev2 (.tmp (ev2 (.slot 6) (.tmp (pure (.str (PySem.Str.ofString ":")))) oPlus)) (.slot 7) oPlus)) (.tmp (pure (.str (PySem.Str.ofString ",")))) oPlus)) (.slot 6) oPlus)) (.tmp (pure (.str (PySem.Str.ofString ":")))) oPlus)) (.slot 6) oPlus) (consM (ev2 (.tmp (ev2 (.tmp (ev2 (.slot 7) (.tmp (pure (.str (PySem.Str.ofString ":1,")))) oPlus)) (.slot 6) oPlus)) (.tmp (pure (.str (PySem.Str.ofString ":1")))) oPlus) (consM (ev2 (.tmp (ev2 (.tmp (ev2 (.slot 6) (.tmp (pure (.str (PySem.Str.ofString ":")))) oPlus)) (.slot 7) oPlus)) (.tmp (pure (.str (PySem.Str.ofString ",")))) oPlus) (consM (ev2 (.slot 6) (.tmp (pure (.str (PySem.Str.ofString ":-0")))) oPlus) (consM (ev2 (.slot 6) (.tmp (pure (.str (PySem.Str.ofString ":--1")))) oPlus) (consM (ev2 (.slot 6) (.tmp (pure (.str (PySem.Str.ofString ":1:2")))) oPlus) (pure []))))))))) (stv 8))
    (seqM (asgM (ev2 (.slot 8) (.tmp (lstM (consM (ev2 (.tmp (pure (.str (PySem.Str.ofString ":")))) (.slot 6) oPlus) (consM (ev2 (.slot 6) (.tmp (pure (.str (PySem.Str.ofString ":")))) oPlus) (consM (ev2 (.tmp (pure (.str (PySem.Str.ofString "-:")))) (.slot 6) oPlus) (consM (ev2 (.tmp (ev2 (.tmp (pure (.str (PySem.Str.ofString "-")))) (.slot 6) oPlus)) (.tmp (pure (.str (PySem.Str.ofString ":1")))) oPlus) (consM (ev2 (.tmp (ev2 (.tmp (pure (.str (PySem.Str.ofString "0")))) (.slot 6) oPlus)) (.tmp (pure (.str (PySem.Str.ofString ":1")))) oPlus) (consM (ev2 (.tmp (ev2 (.slot 6) (.tmp (pure (.str (PySem.Str.ofString ":0")))) oPlus)) (.slot 7) oPlus) (consM (pure (.str (PySem.Str.ofString ""))) (consM (ev2 (.slot 6) (.tmp (pure (.str (PySem.Str.ofString ":1,,")))) oPlus) (consM (ev2 (.tmp (ev2 (.slot 6) (.tmp (pure (.str (PySem.Str.ofString ",")))) oPlus)) (.slot 7) oPlus) (pure [])))))))))))) oPlus) (stv 8))
    (retM (callM m__law_one [.slot 0, .tmp (ev2 (.slot 8) (.tmp (lstM (consM (ev2 (.tmp (ev2 (.slot 6) (.tmp (pure (.str (PySem.Str.ofString ":")))) oPlus)) (.slot 3) oPlus) (consM (ev2 (.tmp (ev2 (.slot 6) (.tmp (pure (.str (PySem.Str.ofString ":-0")))) oPlus)) (.slot 7) oPlus) (consM (ev2 (.slot 6) (.tmp (pure (.str (PySem.Str.ofString ":-")))) oPlus) (consM (ev2 (.tmp (ev2 (.slot 6) (.tmp (pure (.str (PySem.Str.ofString ":1,")))) oPlus)) (.slot 7) oPlus) (pure []))))))) oPlus)]))))
    (pure .nx))
    (seqM (asgM (lstM (consM (ev2 (.slot 6) (.tmp (pure (.str (PySem.Str.ofString ">")))) oPlus) (consM (ev2 (.tmp (pure (.str (PySem.Str.ofString ">")))) (.slot 6) oPlus) (consM (ev2 (.tmp (ev2 (.slot 6) (.tmp (pure (.str (PySem.Str.ofString ">>")))) oPlus)) (.slot 7) oPlus) (consM (pure (.str (PySem.Str.ofString ""))) (consM (ev2 (.tmp (ev2 (.slot 6) (.tmp (pure (.str (PySem.Str.ofString ",")))) oPlus)) (.slot 7) oPlus) (consM (ev2 (.tmp (ev2 (.tmp (ev2 (.tmp (pure (.str (PySem.Str.ofString "0")))) (.slot 6) oPlus)) (.tmp (pure (.str (PySem.Str.ofString ">")))) oPlus)) (.slot 7) oPlus) (consM (ev2 (.tmp (ev2 (.slot 6) (.tmp (pure (.str (PySem.Str.ofString ">-")))) oPlus)) (.slot 7) oPlus) (consM (ev2 (.tmp (pure (.str (PySem.Str.ofString "-")))) (.slot 6) oPlus) (consM (pure (.str (PySem.Str.ofString "-0"))) (consM (pure (.str (PySem.Str.ofString "00"))) (consM (ev2 (.tmp (pure (.str (PySem.Str.ofString "->")))) (.slot 6) oPlus) (pure []))))))))))))) (stv 8))
    (retM (callM m__law_one [.slot 0, .tmp (ev2 (.slot 8) (.tmp (lstM (consM (ev2 (.tmp (ev2 (.slot 6) (.tmp (pure (.str (PySem.Str.ofString ":")))) oPlus)) (.slot 7) oPlus) (consM (pure (.str (PySem.Str.ofString ">"))) (consM (ev2 (.tmp (ev2 (.slot 6) (.tmp (pure (.str (PySem.Str.ofString ">")))) oPlus)) (.slot 3) oPlus) (pure [])))))) oPlus)])))))))))))
def m__law_a_nearly : List D → FRes := defF 9 [true, false] g__law_a_nearly
theorem ok__law_a_nearly (T : Txt P K mg) : DefAt P w K mg base 3 "_law_a_nearly" ["s", "kind"] (spF (cnOf K) [true, false] m__law_a_nearly) := by
  have G__law_pick := ok__law_pick (base := base) (P := P) (w := w) T
  have G__law_a_big := ok__law_a_big (base := base) (P := P) (w := w) T
  have G__law_one := ok__law_one (base := base) (P := P) (w := w) T
  refine def_mk (k := 2) T.l__law_a_nearly sc__law_a_nearly rfl fun f cdv A outer s H E hr => ?_
  have tk : L2N.Takes (cxOf (L2N.CX P w) P w K mg base ["s", "kind", "a", "long", "b", "k", "x", "y", "rows"] "_law_a_nearly" (defScope s__law_a_nearly) f cdv A outer s H E) (fun cls d _ H => E cls d H) := L2N.takes_of rfl rfl rfl rfl
  exact ⟨_, _, (pss_cons (ps_par (i := 2) (j := 3) rfl sc__law_a_nearly.nd rfl rfl (by decide) rfl rfl (pa_cons (pe_op op_plus pe_int (pe_cd G__law_a_big hr (fun σ => L2N.passAt tk σ) (pa_cons (pv 0) pa_nil))) (pa_cons (pe_callTy call_str_int (by rfl) T.n_str (by decide +kernel) (pa_cons (pe_op op_plus pe_int (pe_cd G__law_pick hr (fun σ => L2N.passAt tk σ) (pa_cons (pv 0) (pa_cons pe_int pa_nil)))) pa_nil)) pa_nil)) rfl)
      (pss_cons (ps_set (i := 4) sc__law_a_nearly.nd rfl (by first | exact .inl rfl | exact .inr rfl) (pe_op op_plus (pe_op op_plus (pv 2) pe_int) (pe_cd G__law_pick hr (fun σ => L2N.passAt tk σ) (pa_cons (pv 0) (pa_cons pe_int pa_nil)))))
      (pss_cons (ps_for (passes_of rfl) rfl (pi_range1 rfl T.n_range (pa_cons pe_int pa_nil)) (pg_name (i := 5) sc__law_a_nearly.nd rfl (by first | exact .inl rfl | exact .inr rfl))
      (pss_one (ps_set (i := 3) sc__law_a_nearly.nd rfl (by first | exact .inl rfl | exact .inr rfl) (pe_op op_plus (pv 3) (pe_callTy call_str_int (by rfl) T.n_str (by decide +kernel) (pa_cons (pe_cd G__law_pick hr (fun σ => L2N.passAt tk σ) (pa_cons (pv 0) (pa_cons pe_int pa_nil))) pa_nil))))))
      (pss_cons (ps_par (i := 6) (j := 7) rfl sc__law_a_nearly.nd rfl rfl (by decide) rfl rfl (pa_cons (pe_callTy call_str_int (by rfl) T.n_str (by decide +kernel) (pa_cons (pv 2) pa_nil)) (pa_cons (pe_callTy call_str_int (by rfl) T.n_str (by decide +kernel) (pa_cons (pv 4) pa_nil)) pa_nil)) rfl)
      (pss_cons (ps_if (pt_cmpR op_gt (pe_callB call_len (by rfl) T.n_len PySem.boot_len (pa_cons (pv 7) pa_nil)) pe_int (nomark _))
      (pss_one (ps_asg (pe_tup (pa_cons pe_str (pa_cons pe_str pa_nil))) (pg_tup rfl (pgs_cons (pg_name (i := 6) sc__law_a_nearly.nd rfl (by first | exact .inl rfl | exact .inr rfl)) (pgs_cons (pg_name (i := 7) sc__law_a_nearly.nd rfl (by first | exact .inl rfl | exact .inr rfl)) pgs_nil)))))
      pss_nil)
      (pss_cons (ps_if (pt_cmpR (op_eqD hr.units) (pv 1) pe_int (nomark _))
      (pss_one (ps_ret (pe_cd G__law_one hr (fun σ => L2N.passAt tk σ) (pa_cons (pv 0) (pa_cons (pe_lst (pa_cons (pe_op op_plus pe_str (pv 6)) (pa_cons pe_str (pa_cons pe_str (pa_cons (pe_op op_plus pe_str (pv 6)) (pa_cons pe_str (pa_cons (pe_op op_plus (pe_op op_plus (pv 6) pe_str) (pv 7)) (pa_cons (pe_op op_plus (pe_op op_plus (pv 6) pe_str) (pv 7)) (pa_cons pe_str (pa_cons (pe_op op_plus (pv 6) pe_str) (pa_cons pe_str (pa_cons (pe_op op_plus (pe_op op_plus (pv 6) pe_str) (pv 7)) (pa_cons (pv 3) pa_nil))))))))))))) pa_nil)))))
      pss_nil)
      (pss_cons (ps_if (pt_cmpR (op_eqD hr.units) (pv 1) pe_int (nomark _))
      (pss_cons (ps_set (i := 8) sc__law_a_nearly.nd rfl (by first | exact .inl rfl | exact .inr rfl) (pe_lst (pa_cons (pe_op op_plus (pe_op op_plus (pv 7) pe_str) (pv 6)) (pa_cons (pe_op op_plus (pe_op op_plus (pv 6) pe_str) (pv 6)) (pa_cons (pe_op op_plus (pv 6) pe_str) (pa_cons (pe_op op_plus pe_str (pv 6)) (pa_cons pe_str (pa_cons pe_str (pa_cons (pe_op op_plus (pe_op op_plus (pv 6) pe_str) (pv 7)) (pa_cons (pe_op op_plus pe_str (pv 6)) (pa_cons (pe_op op_plus pe_str (pv 6)) (pa_cons (pe_op op_plus (pe_op op_plus (pv 6) pe_str) (pv 7)) pa_nil))))))))))))
      (pss_one (ps_ret (pe_cd G__law_one hr (fun σ => L2N.passAt tk σ) (pa_cons (pv 0) (pa_cons (pe_op op_plus (pv 8) (pe_lst (pa_cons (pe_op op_plus pe_str (pv 6)) (pa_cons (pe_op op_plus (pe_op op_plus (pv 6) pe_str) (pv 7)) (pa_cons (pe_op op_plus (pe_op op_plus (pv 6) pe_str) (pv 7)) (pa_cons pe_str (pa_cons (pe_op op_plus (pe_op op_plus (pv 6) pe_str) (pv 3)) (pa_cons (pe_op op_plus (pe_op op_plus pe_str (pv 6)) pe_str) pa_nil)))))))) pa_nil))))))
      pss_nil)
      (pss_cons (ps_if (pt_cmpR (op_eqD hr.units) (pv 1) pe_int (nomark _))
      (pss_cons (ps_set (i := 8) sc__law_a_nearly.nd rfl (by first | exact .inl rfl | exact .inr rfl) (pe_lst (pa_cons (pv 6) (pa_cons (pe_op op_plus (pe_op op_plus (pe_op op_plus (pe_op op_plus (pe_op op_plus (pe_op op_plus (pv 6) pe_str) (pv 7)) pe_str) (pv 6)) pe_str) (pv 6)) (pa_cons (pe_op op_plus (pe_op op_plus (pe_op op_plus (pv 7) pe_str) (pv 6)) pe_str) (pa_cons (pe_op op_plus (pe_op op_plus (pe_op op_plus (pv 6) pe_str) (pv 7)) pe_str) (pa_cons (pe_op op_plus (pv 6) pe_str) (pa_cons (pe_op op_plus (pv 6) pe_str) (pa_cons (pe_op op_plus (pv 6) pe_str) pa_nil)))))))))
      (pss_cons (ps_set (i := 8) sc__law_a_nearly.nd rfl (by first | exact .inl rfl | exact .inr rfl) (pe_op op_plus (pv 8) (pe_lst (pa_cons (pe_op op_plus pe_str (pv 6)) (pa_cons (pe_op op_plus (pv 6) pe_str) (pa_cons (pe_op op_plus pe_str (pv 6)) (pa_cons (pe_op op_plus (pe_op op_plus pe_str (pv 6)) pe_str) (pa_cons (pe_op op_plus (pe_op op_plus pe_str (pv 6)) pe_str) (pa_cons (pe_op op_plus (pe_op op_plus (pv 6) pe_str) (pv 7)) (pa_cons pe_str (pa_cons (pe_op op_plus (pv 6) pe_str) (pa_cons (pe_op op_plus (pe_op op_plus (pv 6) pe_str) (pv 7)) pa_nil))))))))))))
      (pss_one (ps_ret (pe_cd G__law_one hr (fun σ => L2N.passAt tk σ) (pa_cons (pv 0) (pa_cons (pe_op op_plus (pv 8) (pe_lst (pa_cons (pe_op op_plus (pe_op op_plus (pv 6) pe_str) (pv 3)) (pa_cons (pe_op op_plus (pe_op op_plus (pv 6) pe_str) (pv 7)) (pa_cons (pe_op op_plus (pv 6) pe_str) (pa_cons (pe_op op_plus (pe_op op_plus (pv 6) pe_str) (pv 7)) pa_nil)))))) pa_nil)))))))
      pss_nil)
      (pss_cons (ps_set (i := 8) sc__law_a_nearly.nd rfl (by first | exact .inl rfl | exact .inr rfl) (pe_lst (pa_cons (pe_op op_plus (pv 6) pe_str) (pa_cons (pe_op op_plus pe_str (pv 6)) (pa_cons (pe_op op_plus (pe_op op_plus (pv 6) pe_str) (pv 7)) (pa_cons pe_str (pa_cons (pe_op op_plus (pe_op op_plus (pv 6) pe_str) (pv 7)) (pa_cons (pe_op op_plus (pe_op op_plus (pe_op op_plus pe_str (pv 6)) pe_str) (pv 7)) (pa_cons (pe_op op_plus (pe_op op_plus (pv 6) pe_str) (pv 7)) (pa_cons (pe_op op_plus pe_str (pv 6)) (pa_cons pe_str (pa_cons pe_str (pa_cons (pe_op op_plus pe_str (pv 6)) pa_nil)))))))))))))
      (pss_one (ps_ret (pe_cd G__law_one hr (fun σ => L2N.passAt tk σ) (pa_cons (pv 0) (pa_cons (pe_op op_plus (pv 8) (pe_lst (pa_cons (pe_op op_plus (pe_op op_plus (pv 6) pe_str) (pv 7)) (pa_cons pe_str (pa_cons (pe_op op_plus (pe_op op_plus (pv 6) pe_str) (pv 3)) pa_nil))))) pa_nil)))))))))))))),
      (SOk.seq (SOk.par (TaOk.cons (TOk.op2 (opT TOk.cI) (opT (TOk.call (AgOk.cons (opS 0) AgOk.nil))) g_plus) (TaOk.cons (TOk.cb1 (opT (TOk.op2 (opT TOk.cI) (opT (TOk.call (AgOk.cons (opS 0) (AgOk.cons (opT TOk.cI) AgOk.nil)))) g_plus)) g_str) TaOk.nil)))
      (SOk.seq (SOk.asg (TOk.op2 (opT (TOk.op2 (opS 2) (opT TOk.cI) g_plus)) (opT (TOk.call (AgOk.cons (opS 0) (AgOk.cons (opT TOk.cI) AgOk.nil)))) g_plus) (GOk.name (i := 4)))
      (SOk.seq (SOk.forR1 (TaOk.cons TOk.cI TaOk.nil) (GOk.name (i := 5))
      (SOk.asg (TOk.op2 (opS 3) (opT (TOk.cb1 (opT (TOk.call (AgOk.cons (opS 0) (AgOk.cons (opT TOk.cI) AgOk.nil)))) g_str)) g_plus) (GOk.name (i := 3))))
      (SOk.seq (SOk.par (TaOk.cons (TOk.cb1 (opS 2) g_str) (TaOk.cons (TOk.cb1 (opS 4) g_str) TaOk.nil)))
      (SOk.seq (SOk.ifS (TtOk.test (TOk.op2 (opT (TOk.cb1 (opS 7) g_len)) (opT TOk.cI) g_gt))
      (SOk.asg (TOk.tup (TaOk.cons TOk.cS (TaOk.cons TOk.cS TaOk.nil))) (GOk.tup (n := 2) (GsOk.cons (GOk.name (i := 6)) (GsOk.cons (GOk.name (i := 7)) GsOk.nil))))
      SOk.next)
      (SOk.seq (SOk.ifS (TtOk.test (TOk.op2 (opS 1) (opT TOk.cI) g_eq))
      (SOk.ret (TOk.call (AgOk.cons (opS 0) (AgOk.cons (opT (TOk.lst (TaOk.cons (TOk.op2 (opT TOk.cS) (opS 6) g_plus) (TaOk.cons TOk.cS (TaOk.cons TOk.cS (TaOk.cons (TOk.op2 (opT TOk.cS) (opS 6) g_plus) (TaOk.cons TOk.cS (TaOk.cons (TOk.op2 (opT (TOk.op2 (opS 6) (opT TOk.cS) g_plus)) (opS 7) g_plus) (TaOk.cons (TOk.op2 (opT (TOk.op2 (opS 6) (opT TOk.cS) g_plus)) (opS 7) g_plus) (TaOk.cons TOk.cS (TaOk.cons (TOk.op2 (opS 6) (opT TOk.cS) g_plus) (TaOk.cons TOk.cS (TaOk.cons (TOk.op2 (opT (TOk.op2 (opS 6) (opT TOk.cS) g_plus)) (opS 7) g_plus) (TaOk.cons (TOk.mv (i := 3)) TaOk.nil)))))))))))))) AgOk.nil))))
      SOk.next)
      (SOk.seq (SOk.ifS (TtOk.test (TOk.op2 (opS 1) (opT TOk.cI) g_eq))
      (SOk.seq (SOk.asg (TOk.lst (TaOk.cons (TOk.op2 (opT (TOk.op2 (opS 7) (opT TOk.cS) g_plus)) (opS 6) g_plus) (TaOk.cons (TOk.op2 (opT (TOk.op2 (opS 6) (opT TOk.cS) g_plus)) (opS 6) g_plus) (TaOk.cons (TOk.op2 (opS 6) (opT TOk.cS) g_plus) (TaOk.cons (TOk.op2 (opT TOk.cS) (opS 6) g_plus) (TaOk.cons TOk.cS (TaOk.cons TOk.cS (TaOk.cons (TOk.op2 (opT (TOk.op2 (opS 6) (opT TOk.cS) g_plus)) (opS 7) g_plus) (TaOk.cons (TOk.op2 (opT TOk.cS) (opS 6) g_plus) (TaOk.cons (TOk.op2 (opT TOk.cS) (opS 6) g_plus) (TaOk.cons (TOk.op2 (opT (TOk.op2 (opS 6) (opT TOk.cS) g_plus)) (opS 7) g_plus) TaOk.nil))))))))))) (GOk.name (i := 8)))
      (SOk.ret (TOk.call (AgOk.cons (opS 0) (AgOk.cons (opT (TOk.op2 (opS 8) (opT (TOk.lst (TaOk.cons (TOk.op2 (opT TOk.cS) (opS 6) g_plus) (TaOk.cons (TOk.op2 (opT (TOk.op2 (opS 6) (opT TOk.cS) g_plus)) (opS 7) g_plus) (TaOk.cons (TOk.op2 (opT (TOk.op2 (opS 6) (opT TOk.cS) g_plus)) (opS 7) g_plus) (TaOk.cons TOk.cS (TaOk.cons (TOk.op2 (opT (TOk.op2 (opS 6) (opT TOk.cS) g_plus)) (opS 3) g_plus) (TaOk.cons (TOk.op2 (opT (TOk.op2 (opT TOk.cS) (opS 6) g_plus)) (opT TOk.cS) g_plus) TaOk.nil)))))))) g_plus)) AgOk.nil)))))
      SOk.next)
      (SOk.seq (SOk.ifS (TtOk.test (TOk.op2 (opS 1) (opT TOk.cI) g_eq))
      (SOk.seq (SOk.asg (TOk.lst (TaOk.cons (TOk.rd (i := 6)) (TaOk.cons (TOk.op2 (opT (TOk.op2 (opT (TOk.op2 (opT (TOk.op2 (opT (TOk.op2 (opT (TOk.op2 (opS 6) (opT TOk.cS) g_plus)) (opS 7) g_plus)) (opT TOk.cS) g_plus)) (opS 6) g_plus)) (opT TOk.cS) g_plus)) (opS 6) g_plus) (TaOk.cons (TOk.op2 (opT (TOk.op2 (opT (TOk.op2 (opS 7) (opT TOk.cS) g_plus)) (opS 6) g_plus)) (opT TOk.cS) g_plus) (TaOk.cons (TOk.op2 (opT (TOk.op2 (opT (TOk.op2 (opS 6) (opT TOk.cS) g_plus)) (opS 7) g_plus)) (opT TOk.cS) g_plus) (TaOk.cons (TOk.op2 (opS 6) (opT TOk.cS) g_plus) (TaOk.cons (TOk.op2 (opS 6) (opT TOk.cS) g_plus) (TaOk.cons (TOk.op2 (opS 6) (opT TOk.cS) g_plus) TaOk.nil)))))))) (GOk.name (i := 8)))
      (SOk.seq (SOk.asg (TOk.op2 (opS 8) (opT (TOk.lst (TaOk.cons (TOk.op2 (opT TOk.cS) (opS 6) g_plus) (TaOk.cons (TOk.op2 (opS 6) (opT TOk.cS) g_plus) (TaOk.cons (TOk.op2 (opT TOk.cS) (opS 6) g_plus) (TaOk.cons (TOk.op2 (opT (TOk.op2 (opT TOk.cS) (opS 6) g_plus)) (opT TOk.cS) g_plus) (TaOk.cons (TOk.op2 (opT (TOk.op2 (opT TOk.cS) (opS 6) g_plus)) (opT TOk.cS) g_plus) (TaOk.cons (TOk.op2 (opT (TOk.op2 (opS 6) (opT TOk.cS) g_plus)) (opS 7) g_plus) (TaOk.cons TOk.cS (TaOk.cons (TOk.op2 (opS 6) (opT TOk.cS) g_plus) (TaOk.cons (TOk.op2 (opT (TOk.op2 (opS 6) (opT TOk.cS) g_plus)) (opS 7) g_plus) TaOk.nil))))))))))) g_plus) (GOk.name (i := 8)))
      (SOk.ret (TOk.call (AgOk.cons (opS 0) (AgOk.cons (opT (TOk.op2 (opS 8) (opT (TOk.lst (TaOk.cons (TOk.op2 (opT (TOk.op2 (opS 6) (opT TOk.cS) g_plus)) (opS 3) g_plus) (TaOk.cons (TOk.op2 (opT (TOk.op2 (opS 6) (opT TOk.cS) g_plus)) (opS 7) g_plus) (TaOk.cons (TOk.op2 (opS 6) (opT TOk.cS) g_plus) (TaOk.cons (TOk.op2 (opT (TOk.op2 (opS 6) (opT TOk.cS) g_plus)) (opS 7) g_plus) TaOk.nil)))))) g_plus)) AgOk.nil))))))
      SOk.next)
      (SOk.seq (SOk.asg (TOk.lst (TaOk.cons (TOk.op2 (opS 6) (opT TOk.cS) g_plus) (TaOk.cons (TOk.op2 (opT TOk.cS) (opS 6) g_plus) (TaOk.cons (TOk.op2 (opT (TOk.op2 (opS 6) (opT TOk.cS) g_plus)) (opS 7) g_plus) (TaOk.cons TOk.cS (TaOk.cons (TOk.op2 (opT (TOk.op2 (opS 6) (opT TOk.cS) g_plus)) (opS 7) g_plus) (TaOk.cons (TOk.op2 (opT (TOk.op2 (opT (TOk.op2 (opT TOk.cS) (opS 6) g_plus)) (opT TOk.cS) g_plus)) (opS 7) g_plus) (TaOk.cons (TOk.op2 (opT (TOk.op2 (opS 6) (opT TOk.cS) g_plus)) (opS 7) g_plus) (TaOk.cons (TOk.op2 (opT TOk.cS) (opS 6) g_plus) (TaOk.cons TOk.cS (TaOk.cons TOk.cS (TaOk.cons (TOk.op2 (opT TOk.cS) (opS 6) g_plus) TaOk.nil)))))))))))) (GOk.name (i := 8)))
      (SOk.ret (TOk.call (AgOk.cons (opS 0) (AgOk.cons (opT (TOk.op2 (opS 8) (opT (TOk.lst (TaOk.cons (TOk.op2 (opT (TOk.op2 (opS 6) (opT TOk.cS) g_plus)) (opS 7) g_plus) (TaOk.cons TOk.cS (TaOk.cons (TOk.op2 (opT (TOk.op2 (opS 6) (opT TOk.cS) g_plus)) (opS 3) g_plus) TaOk.nil))))) g_plus)) AgOk.nil))))))))))))), by decide⟩
abbrev s_law : Stmt := topS 37
theorem sc_law : FnScope ["script", "s", "kind", "line", "due", "word", "told", "fault", "wrong"] ["script"] (defScope s_law) := ⟨rfl, rfl, rfl, by decide +kernel, rfl, by decide +kernel, by decide +kernel⟩
def g_law : M Flw :=
    (seqM (asgM (callM m__law_source [.tmp (mvv 0), .tmp (pure (.int 0))]) (stv 1))
    (seqM (forR1 (consM (pure (.int 4)) (pure [])) (stv 2)
    (seqM (asgM (ev2 (.tmp (pure (.int 1))) (.tmp (callM m__law_pick [.slot 1, .tmp (ev2 (.tmp (pure (.int 10))) (.tmp (pure (.int 6))) oPow)])) oPlus) (stv 3))
    (seqM (asgM (callM m__law_a_right [.slot 1, .tmp (rdv 2)]) (fun d => match d with | .tup ds => (if ds.length = 2 then (fun ds => match ds with | d :: r => (do (stv 4) d; (fun ds => match ds with | d :: r => (do (stv 5) d; (fun ds => match ds with | [] => pure () | _ => badM) r) | [] => badM) r) | [] => badM) ds else badM) | _ => badM))
    (seqM (asgM (callM m__law_a_read [.tmp (rdv 2), .tmp (rdv 5), .tmp (rdv 3)]) (fun d => match d with | .tup ds => (if ds.length = 2 then (fun ds => match ds with | d :: r => (do (stv 6) d; (fun ds => match ds with | d :: r => (do (stv 7) d; (fun ds => match ds with | [] => pure () | _ => badM) r) | [] => badM) r) | [] => badM) ds else badM) | _ => badM))
    (seqM (ifM (orT (asB (ev2 (.slot 7) (.tmp (pure .non)) oIsNot)) (notT (evT (.tmp (callM (m__law_same 3) [.slot 6, .slot 4])))))
    (retM (pure (.bl false)))
    (pure .nx))
    (seqM (ifM (asB (ev2 (.slot 2) (.tmp (pure (.int 0))) oGt))
    (dropM (appM 6 (pure (.int 7))))
    (pure .nx))
    (seqM (asgM (callM m__law_a_nearly [.slot 1, .tmp (rdv 2)]) (stv 8))
    (seqM (asgM (callM m__law_a_read [.tmp (rdv 2), .tmp (mvv 8), .tmp (rdv 3)]) (fun d => match d with | .tup ds => (if ds.length = 2 then (fun ds => match ds with | d :: r => (do (stv 6) d; (fun ds => match ds with | d :: r => (do (stv 7) d; (fun ds => match ds with | [] => pure () | _ => badM) r) | [] => badM) r) | [] => badM) ds else badM) | _ => badM))
    (seqM (ifM (orT (asB (ev2 (.slot 6) (.tmp (pure .non)) oIsNot)) (notT (evT (.tmp (callM (m__law_same 3) [.slot 7, .tmp (tupM (consM (pure (.str (PySem.Str.ofString "BadText"))) (consM (rdv 3) (pure []))))])))))
    (retM (pure (.bl false)))
    (pure .nx))
    (seqM (asgM (callM m__law_a_read [.tmp (rdv 2), .tmp (mvv 5), .tmp (mvv 3)]) (fun d => match d with | .tup ds => (if ds.length = 2 then (fun ds => match ds with | d :: r => (do (stv 6) d; (fun ds => match ds with | d :: r => (do (stv 7) d; (fun ds => match ds with | [] => pure () | _ => badM) r) | [] => badM) r) | [] => badM) ds else badM) | _ => badM))
    (ifM (orT (asB (ev2 (.slot 7) (.tmp (pure .non)) oIsNot)) (notT (evT (.tmp (callM (m__law_same 3) [.slot 6, .slot 4])))))
    (retM (pure (.bl false)))
    (pure .nx))))))))))))
    (seqM (forR2 (consM (pure (.int 1)) (consM (pure (.int 4)) (pure []))) (stv 2)
    (seqM (asgM (callM m__law_a_read [.tmp (mvv 2), .tmp (pure (.str (PySem.Str.ofString "-"))), .tmp (pure (.int 1))]) (fun d => match d with | .tup ds => (if ds.length = 2 then (fun ds => match ds with | d :: r => (do (stv 6) d; (fun ds => match ds with | d :: r => (do (stv 7) d; (fun ds => match ds with | [] => pure () | _ => badM) r) | [] => badM) r) | [] => badM) ds else badM) | _ => badM))
    (ifM (orT (asB (ev2 (.slot 7) (.tmp (pure .non)) oIsNot)) (notT (evT (.tmp (callM (m__law_same 3) [.slot 6, .tmp (lstM (pure []))])))))
    (retM (pure (.bl false)))
    (pure .nx))))
    (retM (pure (.bl true))))))
def m_law : List D → FRes := defF 9 [false] g_law
theorem ok_law (T : Txt P K mg) : DefAt P w K mg base 6 "law" ["script"] (spF (cnOf K) [false] m_law) := by
  have G__law_source := ok__law_source (base := base) (P := P) (w := w) T
  have G__law_pick := ok__law_pick (base := base) (P := P) (w := w) T
  have G__law_a_right := ok__law_a_right (base := base) (P := P) (w := w) T
  have G__law_a_read := ok__law_a_read (base := base) (P := P) (w := w) T
  have G__law_same := ok__law_same (base := base) (P := P) (w := w) T 3
  have G__law_a_nearly := ok__law_a_nearly (base := base) (P := P) (w := w) T
  refine def_mk (k := 5) T.l_law sc_law rfl fun f cdv A outer s H E hr => ?_
  have tk : L2N.Takes (cxOf (L2N.CX P w) P w K mg base ["script", "s", "kind", "line", "due", "word", "told", "fault", "wrong"] "law" (defScope s_law) f cdv A outer s H E) (fun cls d _ H => E cls d H) := L2N.takes_of rfl rfl rfl rfl
  exact ⟨_, _, (pss_cons (ps_set (i := 1) sc_law.nd rfl (by first | exact .inl rfl | exact .inr rfl) (pe_cd G__law_source hr (fun σ => L2N.passAt tk σ) (pa_cons (pv 0) (pa_cons pe_int pa_nil))))
      (pss_cons (ps_for (passes_of rfl) rfl (pi_range1 rfl T.n_range (pa_cons pe_int pa_nil)) (pg_name (i := 2) sc_law.nd rfl (by first | exact .inl rfl | exact .inr rfl))
      (pss_cons (ps_set (i := 3) sc_law.nd rfl (by first | exact .inl rfl | exact .inr rfl) (pe_op op_plus pe_int (pe_cd G__law_pick hr (fun σ => L2N.passAt tk σ) (pa_cons (pv 1) (pa_cons (pe_op op_pow pe_int pe_int) pa_nil)))))
      (pss_cons (ps_asg (pe_cd G__law_a_right hr (fun σ => L2N.passAt tk σ) (pa_cons (pv 1) (pa_cons (pv 2) pa_nil))) (pg_tup rfl (pgs_cons (pg_name (i := 4) sc_law.nd rfl (by first | exact .inl rfl | exact .inr rfl)) (pgs_cons (pg_name (i := 5) sc_law.nd rfl (by first | exact .inl rfl | exact .inr rfl)) pgs_nil))))
      (pss_cons (ps_asg (pe_cd G__law_a_read hr (fun σ => L2N.passAt tk σ) (pa_cons (pv 2) (pa_cons (pv 5) (pa_cons (pv 3) pa_nil)))) (pg_tup rfl (pgs_cons (pg_name (i := 6) sc_law.nd rfl (by first | exact .inl rfl | exact .inr rfl)) (pgs_cons (pg_name (i := 7) sc_law.nd rfl (by first | exact .inl rfl | exact .inr rfl)) pgs_nil))))
      (pss_cons (ps_if (PW.pt (pw_or (pt_cmpR op_notN (pv 7) pe_non (nomark _)) (pw_or1 (pt_not (pt_truth (pe_cd G__law_same hr (fun σ => L2N.passAt tk σ) (pa_cons (pv 6) (pa_cons (pv 4) pa_nil))) (by intro _; rfl))))))
      (pss_one (ps_ret pe_bl))
      pss_nil)
      (pss_cons (ps_if (pt_cmpR op_gt (pv 2) pe_int (nomark _))
      (pss_one (ps_expr (pe_bm PySem.F.plainAttrs_list PySem.F.slot_list_append PySem.F.type_list_append mt_append (pv 6) (pa_cons pe_int pa_nil))))
      pss_nil)
      (pss_cons (ps_set (i := 8) sc_law.nd rfl (by first | exact .inl rfl | exact .inr rfl) (pe_cd G__law_a_nearly hr (fun σ => L2N.passAt tk σ) (pa_cons (pv 1) (pa_cons (pv 2) pa_nil))))
      (pss_cons (ps_asg (pe_cd G__law_a_read hr (fun σ => L2N.passAt tk σ) (pa_cons (pv 2) (pa_cons (pv 8) (pa_cons (pv 3) pa_nil)))) (pg_tup rfl (pgs_cons (pg_name (i := 6) sc_law.nd rfl (by first | exact .inl rfl | exact .inr rfl)) (pgs_cons (pg_name (i := 7) sc_law.nd rfl (by first | exact .inl rfl | exact .inr rfl)) pgs_nil))))
      (pss_cons (ps_if (PW.pt (pw_or (pt_cmpR op_notN (pv 6) pe_non (nomark _)) (pw_or1 (pt_not (pt_truth (pe_cd G__law_same hr (fun σ => L2N.passAt tk σ) (pa_cons (pv 7) (pa_cons (pe_tup (pa_cons pe_str (pa_cons (pv 3) pa_nil))) pa_nil))) (by intro _; rfl))))))
      (pss_one (ps_ret pe_bl))
      pss_nil)
      (pss_cons (ps_asg (pe_cd G__law_a_read hr (fun σ => L2N.passAt tk σ) (pa_cons (pv 2) (pa_cons (pv 5) (pa_cons (pv 3) pa_nil)))) (pg_tup rfl (pgs_cons (pg_name (i := 6) sc_law.nd rfl (by first | exact .inl rfl | exact .inr rfl)) (pgs_cons (pg_name (i := 7) sc_law.nd rfl (by first | exact .inl rfl | exact .inr rfl)) pgs_nil))))
      (pss_one (ps_if (PW.pt (pw_or (pt_cmpR op_notN (pv 7) pe_non (nomark _)) (pw_or1 (pt_not (pt_truth (pe_cd G__law_same hr (fun σ => L2N.passAt tk σ) (pa_cons (pv 6) (pa_cons (pv 4) pa_nil))) (by intro _; rfl))))))
      (pss_one (ps_ret pe_bl))
      pss_nil))))))))))))
      (pss_cons (ps_for (passes_of rfl) rfl (pi_range2 rfl T.n_range (pa_cons pe_int (pa_cons pe_int pa_nil))) (pg_name (i := 2) sc_law.nd rfl (by first | exact .inl rfl | exact .inr rfl))
      (pss_cons (ps_asg (pe_cd G__law_a_read hr (fun σ => L2N.passAt tk σ) (pa_cons (pv 2) (pa_cons pe_str (pa_cons pe_int pa_nil)))) (pg_tup rfl (pgs_cons (pg_name (i := 6) sc_law.nd rfl (by first | exact .inl rfl | exact .inr rfl)) (pgs_cons (pg_name (i := 7) sc_law.nd rfl (by first | exact .inl rfl | exact .inr rfl)) pgs_nil))))
      (pss_one (ps_if (PW.pt (pw_or (pt_cmpR op_notN (pv 7) pe_non (nomark _)) (pw_or1 (pt_not (pt_truth (pe_cd G__law_same hr (fun σ => L2N.passAt tk σ) (pa_cons (pv 6) (pa_cons (pe_lst pa_nil) pa_nil))) (by intro _; rfl))))))
      (pss_one (ps_ret pe_bl))
      pss_nil))))
      (pss_one (ps_ret pe_bl))))),
      (SOk.seq (SOk.asg (TOk.call (AgOk.cons (opT (TOk.mv (i := 0))) (AgOk.cons (opT TOk.cI) AgOk.nil))) (GOk.name (i := 1)))
      (SOk.seq (SOk.forR1 (TaOk.cons TOk.cI TaOk.nil) (GOk.name (i := 2))
      (SOk.seq (SOk.asg (TOk.op2 (opT TOk.cI) (opT (TOk.call (AgOk.cons (opS 1) (AgOk.cons (opT (TOk.op2 (opT TOk.cI) (opT TOk.cI) g_pow)) AgOk.nil)))) g_plus) (GOk.name (i := 3)))
      (SOk.seq (SOk.asg (TOk.call (AgOk.cons (opS 1) (AgOk.cons (opT (TOk.rd (i := 2))) AgOk.nil))) (GOk.tup (n := 2) (GsOk.cons (GOk.name (i := 4)) (GsOk.cons (GOk.name (i := 5)) GsOk.nil))))
      (SOk.seq (SOk.asg (TOk.call (AgOk.cons (opT (TOk.rd (i := 2))) (AgOk.cons (opT (TOk.rd (i := 5))) (AgOk.cons (opT (TOk.rd (i := 3))) AgOk.nil)))) (GOk.tup (n := 2) (GsOk.cons (GOk.name (i := 6)) (GsOk.cons (GOk.name (i := 7)) GsOk.nil))))
      (SOk.seq (SOk.ifS (TtOk.or (TtOk.test (TOk.op2 (opS 7) (opT TOk.cN) g_isNot)) (TtOk.not (TtOk.truth (opT (TOk.call (AgOk.cons (opS 6) (AgOk.cons (opS 4) AgOk.nil)))))))
      (SOk.ret TOk.cB)
      SOk.next)
      (SOk.seq (SOk.ifS (TtOk.test (TOk.op2 (opS 2) (opT TOk.cI) g_gt))
      (SOk.drop (TOk.append TOk.cI))
      SOk.next)
      (SOk.seq (SOk.asg (TOk.call (AgOk.cons (opS 1) (AgOk.cons (opT (TOk.rd (i := 2))) AgOk.nil))) (GOk.name (i := 8)))
      (SOk.seq (SOk.asg (TOk.call (AgOk.cons (opT (TOk.rd (i := 2))) (AgOk.cons (opT (TOk.mv (i := 8))) (AgOk.cons (opT (TOk.rd (i := 3))) AgOk.nil)))) (GOk.tup (n := 2) (GsOk.cons (GOk.name (i := 6)) (GsOk.cons (GOk.name (i := 7)) GsOk.nil))))
      (SOk.seq (SOk.ifS (TtOk.or (TtOk.test (TOk.op2 (opS 6) (opT TOk.cN) g_isNot)) (TtOk.not (TtOk.truth (opT (TOk.call (AgOk.cons (opS 7) (AgOk.cons (opT (TOk.tup (TaOk.cons TOk.cS (TaOk.cons (TOk.rd (i := 3)) TaOk.nil)))) AgOk.nil)))))))
      (SOk.ret TOk.cB)
      SOk.next)
      (SOk.seq (SOk.asg (TOk.call (AgOk.cons (opT (TOk.rd (i := 2))) (AgOk.cons (opT (TOk.mv (i := 5))) (AgOk.cons (opT (TOk.mv (i := 3))) AgOk.nil)))) (GOk.tup (n := 2) (GsOk.cons (GOk.name (i := 6)) (GsOk.cons (GOk.name (i := 7)) GsOk.nil))))
      (SOk.ifS (TtOk.or (TtOk.test (TOk.op2 (opS 7) (opT TOk.cN) g_isNot)) (TtOk.not (TtOk.truth (opT (TOk.call (AgOk.cons (opS 6) (AgOk.cons (opS 4) AgOk.nil)))))))
      (SOk.ret TOk.cB)
      SOk.next)))))))))))
      (SOk.seq (SOk.forR2 (TaOk.cons TOk.cI (TaOk.cons TOk.cI TaOk.nil)) (GOk.name (i := 2))
      (SOk.seq (SOk.asg (TOk.call (AgOk.cons (opT (TOk.mv (i := 2))) (AgOk.cons (opT TOk.cS) (AgOk.cons (opT TOk.cI) AgOk.nil)))) (GOk.tup (n := 2) (GsOk.cons (GOk.name (i := 6)) (GsOk.cons (GOk.name (i := 7)) GsOk.nil))))
      (SOk.ifS (TtOk.or (TtOk.test (TOk.op2 (opS 7) (opT TOk.cN) g_isNot)) (TtOk.not (TtOk.truth (opT (TOk.call (AgOk.cons (opS 6) (AgOk.cons (opT (TOk.lst TaOk.nil)) AgOk.nil)))))))
      (SOk.ret TOk.cB)
      SOk.next)))
      (SOk.ret TOk.cB)))), by decide⟩
end
end K01
end
section
set_option Elab.async false
set_option linter.all false
set_option maxRecDepth 100000
set_option maxHeartbeats 4000000
namespace K01
open PySem PySem.Spec PyProof.Rows L2 Mir
/-! ### the head -/
def es0 : List ErrD := [⟨"TooMany", ["what"], initSt (topS 2)⟩, ⟨"BadNet", ["what", "number"], initSt (topS 3)⟩, ⟨"BadLots", ["what", "row"], initSt (topS 4)⟩, ⟨"BadWant", ["what", "place"], initSt (topS 5)⟩, ⟨"BadOutage", ["row"], initSt (topS 6)⟩, ⟨"BadStanding", ["valve"], initSt (topS 7)⟩, ⟨"Unsafe", ["word"], initSt (topS 8)⟩, ⟨"BadTask", ["what"], initSt (topS 9)⟩, ⟨"BadAsk", ["ask"], initSt (topS 10)⟩, ⟨"BadPlan", ["bell"], initSt (topS 11)⟩, ⟨"BadLook", ["row"], initSt (topS 12)⟩, ⟨"BadCourse", ["act"], initSt (topS 13)⟩, ⟨"BadText", ["line"], initSt (topS 14)⟩, ⟨"BadDeed", ["what"], initSt (topS 15)⟩]
def fn0 : List He.DefD := [defD "is_number" (topS 19), defD "read_number" (topS 20), defD "read_signed" (topS 21), defD "ascending" (topS 22), defD "read_set" (topS 23), defD "read_pairs" (topS 24), defD "read_row" (topS 25), defD "_law_source" (topS 27), defD "_law_pick" (topS 28), defD "_law_one" (topS 29), defD "_law_same" (topS 30), defD "_law_fault" (topS 31), defD "_law_a_read" (topS 32), defD "_law_a_big" (topS 33), defD "_law_a_rising" (topS 34), defD "_law_a_right" (topS 35), defD "_law_a_nearly" (topS 36), defD "law" (topS 37)]
def fa0 : List He.Fa := [.free "all", .free "bool", .free "dict", .free "int", .free "isinstance", .free "len", .free "list", .free "range", .free "sorted", .free "str", .free "super", .free "tuple", .glo "is_number", .glo "read_number", .glo "read_signed", .glo "ascending", .glo "read_set", .glo "read_pairs", .glo "read_row", .glo "_law_source", .glo "_law_pick", .glo "_law_one", .glo "_law_same", .glo "_law_fault", .glo "_law_a_read", .glo "_law_a_big", .glo "_law_a_rising", .glo "_law_a_right", .glo "_law_a_nearly", .glo "law", .glo "BadAsk", .glo "BadCourse", .glo "BadDeed", .glo "BadLook", .glo "BadLots", .glo "BadNet", .glo "BadOutage", .glo "BadPlan", .glo "BadStanding", .glo "BadTask", .glo "BadText", .glo "BadWant", .glo "TooMany", .glo "Unsafe", .glo "WorksError", .str "FIGURES" v_FIGURES, .int "MOST_FIGURES" 40]
def ex0 (K : PySem.W.Frag) : Bool := ([codeB PySem.Challenge.pw_fourbells_k01_fields_read.main.file K "BadText", dflNone K "BadText", kitB et0 K "BadAsk" ans_BadAsk, kitB et0 K "BadCourse" ans_BadCourse, kitB et0 K "BadDeed" ans_BadDeed, kitB et0 K "BadLook" ans_BadLook, kitB et0 K "BadLots" ans_BadLots, kitB et0 K "BadNet" ans_BadNet, kitB et0 K "BadOutage" ans_BadOutage, kitB et0 K "BadPlan" ans_BadPlan, kitB et0 K "BadStanding" ans_BadStanding, kitB et0 K "BadTask" ans_BadTask, kitB et0 K "BadText" ans_BadText, kitB et0 K "BadWant" ans_BadWant, kitB et0 K "TooMany" ans_TooMany, kitB et0 K "Unsafe" ans_Unsafe, kitB et0 K "WorksError" ans_WorksError, exmB et0 K "WorksError" ans_WorksError] : List Bool).all id
theorem isErr_BadText : IsErr ⟨"BadText", ["line"], initSt (topS 14)⟩ false (PySem.Str.ofString "bad text") := ⟨⟨_, rfl, rfl⟩, fun qual dV kV doc pm ct an cda cc s us hl hd => by subst hd; match us, hl with | [_, _], _ => exact .of_eq rfl, rfl, rfl, by decide +kernel, rfl, by decide +kernel, rfl, rfl, by decide +kernel, ⟨_, _, _, _, _, _, ⟨_, _, rfl⟩, rfl, .inl ⟨_, _, _, _, _, rfl, rfl⟩⟩⟩
theorem txt_of {K : PySem.W.Frag} {h : Heap} {mg : Str → Option Value} (X : K.In h) (G : h.Ns mainGlobals mg) (c : SaysM fa0 fn0 ex0 es0 K) : Txt PySem.Challenge.pw_fourbells_k01_fields_read K mg := by
  have hb := c.b
  have hx : ([codeB PySem.Challenge.pw_fourbells_k01_fields_read.main.file K "BadText", dflNone K "BadText", kitB et0 K "BadAsk" ans_BadAsk, kitB et0 K "BadCourse" ans_BadCourse, kitB et0 K "BadDeed" ans_BadDeed, kitB et0 K "BadLook" ans_BadLook, kitB et0 K "BadLots" ans_BadLots, kitB et0 K "BadNet" ans_BadNet, kitB et0 K "BadOutage" ans_BadOutage, kitB et0 K "BadPlan" ans_BadPlan, kitB et0 K "BadStanding" ans_BadStanding, kitB et0 K "BadTask" ans_BadTask, kitB et0 K "BadText" ans_BadText, kitB et0 K "BadWant" ans_BadWant, kitB et0 K "TooMany" ans_TooMany, kitB et0 K "Unsafe" ans_Unsafe, kitB et0 K "WorksError" ans_WorksError, exmB et0 K "WorksError" ans_WorksError] : List Bool).all id = true := hb.1
  simp only [List.all_cons, List.all_nil, Bool.and_eq_true, id, and_true] at hx
  obtain ⟨x0, x1, x2, x3, x4, x5, x6, x7, x8, x9, x10, x11, x12, x13, x14, x15, x16, x17⟩ := hx
  exact ⟨lk_of (c.d.def_ 0 rfl) (He.glo_ok X G (c.d.fact 12 rfl)) fun _ _ _ _ _ _ us hl => match us, hl with | [_], _ => rfl,
    lk_of (c.d.def_ 1 rfl) (He.glo_ok X G (c.d.fact 13 rfl)) fun _ _ _ _ _ _ us hl => match us, hl with | [_, _], _ => rfl,
    lk_of (c.d.def_ 2 rfl) (He.glo_ok X G (c.d.fact 14 rfl)) fun _ _ _ _ _ _ us hl => match us, hl with | [_, _], _ => rfl,
    lk_of (c.d.def_ 3 rfl) (He.glo_ok X G (c.d.fact 15 rfl)) fun _ _ _ _ _ _ us hl => match us, hl with | [_], _ => rfl,
    lk_of (c.d.def_ 4 rfl) (He.glo_ok X G (c.d.fact 16 rfl)) fun _ _ _ _ _ _ us hl => match us, hl with | [_, _], _ => rfl,
    lk_of (c.d.def_ 5 rfl) (He.glo_ok X G (c.d.fact 17 rfl)) fun _ _ _ _ _ _ us hl => match us, hl with | [_, _], _ => rfl,
    lk_of (c.d.def_ 6 rfl) (He.glo_ok X G (c.d.fact 18 rfl)) fun _ _ _ _ _ _ us hl => match us, hl with | [_, _], _ => rfl,
    lk_of (c.d.def_ 7 rfl) (He.glo_ok X G (c.d.fact 19 rfl)) fun _ _ _ _ _ _ us hl => match us, hl with | [_, _], _ => rfl,
    lk_of (c.d.def_ 8 rfl) (He.glo_ok X G (c.d.fact 20 rfl)) fun _ _ _ _ _ _ us hl => match us, hl with | [_, _], _ => rfl,
    lk_of (c.d.def_ 9 rfl) (He.glo_ok X G (c.d.fact 21 rfl)) fun _ _ _ _ _ _ us hl => match us, hl with | [_, _], _ => rfl,
    lk_of (c.d.def_ 10 rfl) (He.glo_ok X G (c.d.fact 22 rfl)) fun _ _ _ _ _ _ us hl => match us, hl with | [_, _], _ => rfl,
    lk_of (c.d.def_ 11 rfl) (He.glo_ok X G (c.d.fact 23 rfl)) fun _ _ _ _ _ _ us hl => match us, hl with | [_], _ => rfl,
    lk_of (c.d.def_ 12 rfl) (He.glo_ok X G (c.d.fact 24 rfl)) fun _ _ _ _ _ _ us hl => match us, hl with | [_, _, _], _ => rfl,
    lk_of (c.d.def_ 13 rfl) (He.glo_ok X G (c.d.fact 25 rfl)) fun _ _ _ _ _ _ us hl => match us, hl with | [_], _ => rfl,
    lk_of (c.d.def_ 14 rfl) (He.glo_ok X G (c.d.fact 26 rfl)) fun _ _ _ _ _ _ us hl => match us, hl with | [_, _], _ => rfl,
    lk_of (c.d.def_ 15 rfl) (He.glo_ok X G (c.d.fact 27 rfl)) fun _ _ _ _ _ _ us hl => match us, hl with | [_, _], _ => rfl,
    lk_of (c.d.def_ 16 rfl) (He.glo_ok X G (c.d.fact 28 rfl)) fun _ _ _ _ _ _ us hl => match us, hl with | [_, _], _ => rfl,
    lk_of (c.d.def_ 17 rfl) (He.glo_ok X G (c.d.fact 29 rfl)) fun _ _ _ _ _ _ us hl => match us, hl with | [_], _ => rfl,
    (He.free_ok X G (c.d.fact 0 rfl)),
    (He.free_ok X G (c.d.fact 1 rfl)),
    (He.free_ok X G (c.d.fact 2 rfl)),
    (He.free_ok X G (c.d.fact 3 rfl)),
    (He.free_ok X G (c.d.fact 4 rfl)),
    (He.free_ok X G (c.d.fact 5 rfl)),
    (He.free_ok X G (c.d.fact 6 rfl)),
    (He.free_ok X G (c.d.fact 7 rfl)),
    (He.free_ok X G (c.d.fact 8 rfl)),
    (He.free_ok X G (c.d.fact 9 rfl)),
    (He.free_ok X G (c.d.fact 11 rfl)),
    He.str_ok X G (c.d.fact 45 rfl),
    He.int_ok X G (c.d.fact 46 rfl),
    etxt_of rfl hb.2,
    errTxt_of (e := ⟨"BadText", ["line"], initSt (topS 14)⟩) (hb.2 _ (List.mem_of_getElem? (i := 12) rfl)) x0 x1 (c.i _ (List.mem_of_getElem? (i := 12) rfl)) isErr_BadText (He.glo_ok X G (c.d.fact 40 rfl)) (He.free_ok X G (c.d.fact 10 rfl)) rfl,
    (He.glo_ok X G (c.d.fact 30 rfl)),
    (He.glo_ok X G (c.d.fact 31 rfl)),
    (He.glo_ok X G (c.d.fact 32 rfl)),
    (He.glo_ok X G (c.d.fact 33 rfl)),
    (He.glo_ok X G (c.d.fact 34 rfl)),
    (He.glo_ok X G (c.d.fact 35 rfl)),
    (He.glo_ok X G (c.d.fact 36 rfl)),
    (He.glo_ok X G (c.d.fact 37 rfl)),
    (He.glo_ok X G (c.d.fact 38 rfl)),
    (He.glo_ok X G (c.d.fact 39 rfl)),
    (He.glo_ok X G (c.d.fact 40 rfl)),
    (He.glo_ok X G (c.d.fact 41 rfl)),
    (He.glo_ok X G (c.d.fact 42 rfl)),
    (He.glo_ok X G (c.d.fact 43 rfl)),
    (He.glo_ok X G (c.d.fact 44 rfl)),
    kitB_ok x2,
    kitB_ok x3,
    kitB_ok x4,
    kitB_ok x5,
    kitB_ok x6,
    kitB_ok x7,
    kitB_ok x8,
    kitB_ok x9,
    kitB_ok x10,
    kitB_ok x11,
    kitB_ok x12,
    kitB_ok x13,
    kitB_ok x14,
    kitB_ok x15,
    kitB_ok x16,
    exmB_ok x17⟩
abbrev R0 : PySem.W.OpenRow := PySem.W.OpenLaw.row PySem.Challenge.rw_fourbells_k01_fields_read
abbrev hk : PySem.W.Hook := hookM 7 fa0 fn0 ex0 es0
def ob (s : PySem.W.SharedT) : AlM := obsMG 7 fa0 fn0 ex0 es0 (HandSHeadRun.getT s)
theorem ob_eq (s : PySem.W.SharedT) : ob s = hk.obs s.abs := obsMG_eq (HandSHeadRun.getT_eq s)
end K01
end
section
set_option Elab.async false
set_option linter.all false
set_option maxRecDepth 100000
set_option maxHeartbeats 4000000
namespace K01
open PySem PySem.Spec PyProof.Rows L2 Mir
def loose0 : List Str := ["WorksError", "TooMany", "BadNet", "BadLots", "BadWant", "BadOutage", "BadStanding", "Unsafe", "BadTask", "BadAsk", "BadPlan", "BadLook", "BadCourse", "BadText", "BadDeed", "FIGURES", "MOST_FIGURES", "is_number", "read_number", "read_signed"]
def loose1 : List Str := ["ascending", "read_set", "read_pairs", "read_row", "_law_source", "_law_pick", "_law_one", "_law_same", "_law_fault", "_law_a_read", "_law_a_big", "_law_a_rising", "_law_a_right", "_law_a_nearly"]
def looseA : List Str := loose0 ++ loose1
set_option maxHeartbeats 0 in
theorem run (w : World) : HandSHeadRun.RunEq R0 (PySem.W.view R0.prog [37]) hk ob 6000 looseA w := by
  intro os
  kernel_rfl
end K01
end
section
set_option Elab.async false
set_option linter.all false
set_option maxRecDepth 100000
set_option maxHeartbeats 4000000
namespace MS
open PySem PySem.Spec PyProof.Rows L2 Mir
open TL (numL numL_lt numL_step numL_digits numL_ne numL_val tl_num)
/-! ### numbers as signs -/
theorem numL_head : ∀ (n : Nat), 1 ≤ n → ∃ c r, numL n = c :: r ∧ c ≠ 48
  | n, h => by
    by_cases q : n < 10
    · exact ⟨48 + n, [], numL_lt q, by omega⟩
    · obtain ⟨c, r, e, hc⟩ := numL_head (n / 10) (by omega)
      exact ⟨c, r ++ [48 + n % 10], by rw [numL_step (by omega), e]; rfl, hc⟩
theorem numL_len : ∀ (k n : Nat), n < 10 ^ (k + 1) → (numL n).length ≤ k + 1
  | 0, n, h => by rw [numL_lt (by omega)]; simp
  | k + 1, n, h => by
    by_cases q : n < 10
    · rw [numL_lt q]; simp
    · rw [numL_step (by omega), List.length_append]
      have := numL_len k (n / 10) (by rw [Nat.pow_succ] at h; omega)
      simp; omega
/-- str(i) -/
abbrev nt (i : Int) : Str := Str.ofString (toString i)
theorem cl_nt (n : Nat) : cl (nt n) = numL n := tl_num n
theorem cl_neg (n : Nat) : cl (nt (-((n + 1 : Nat) : Int))) = 45 :: numL (n + 1) := by
  have e2 : (toString (-((n + 1 : Nat) : Int)) : String) = "-" ++ toString ((n + 1 : Nat) : Int) := rfl
  have e3 : cl (nt ((n + 1 : Nat) : Int)) = numL (n + 1) := cl_nt (n + 1)
  unfold cl nt at e3 ⊢
  rw [signs_ofString] at e3 ⊢
  rw [e2, String.toList_append, List.map_append, e3]
  rfl
/-! ### splits of signs -/
def consH (d : Nat) : List (List Nat) → List (List Nat)
  | [] => [[d]]
  | p :: ps => (d :: p) :: ps
def spl (c : Nat) : List Nat → List (List Nat)
  | [] => [[]]
  | d :: l => if d = c then [] :: spl c l else consH d (spl c l)
theorem spl_ne (c : Nat) : ∀ l, spl c l ≠ []
  | [] => by simp [spl]
  | d :: l => by
    unfold spl
    split
    · simp
    · cases q : spl c l <;> simp [consH]
theorem spl_free {c : Nat} : ∀ {l : List Nat}, c ∉ l → spl c l = [l]
  | [], _ => rfl
  | d :: l, h => by
    have h1 : d ≠ c := fun z => h (by rw [z]; exact List.mem_cons_self)
    rw [spl, if_neg h1, spl_free fun z => h (List.mem_cons_of_mem _ z)]
    rfl
theorem spl_app {c : Nat} {l : List Nat} : ∀ {p : List Nat}, c ∉ p → spl c (p ++ c :: l) = p :: spl c l
  | [], _ => by simp [spl]
  | d :: p, h => by
    have h1 : d ≠ c := fun z => h (by rw [z]; exact List.mem_cons_self)
    rw [List.cons_append, spl, if_neg h1, spl_app fun z => h (List.mem_cons_of_mem _ z)]
    rfl
theorem spl_jl {c : Nat} : ∀ {ps : List (List Nat)}, ps ≠ [] → (∀ p ∈ ps, c ∉ p) → spl c (jl c ps) = ps
  | [], h, _ => absurd rfl h
  | [p], _, h => spl_free (h p List.mem_cons_self)
  | p :: q :: r, _, h => by
    show spl c (p ++ c :: jl c (q :: r)) = _
    rw [spl_app (h p List.mem_cons_self), spl_jl (by simp) fun z hz => h z (List.mem_cons_of_mem _ hz)]
theorem split_cl (c : Nat) (x : Str) : (Txt.split x ⟨#[c]⟩).map cl = spl c (cl x) := by
  have h1 : Str.join ⟨#[c]⟩ (Txt.split x ⟨#[c]⟩) = x := StrLaws.join_split x ⟨#[c]⟩
  have h2 := StrLaws.split_free x c
  have h3 : Txt.split x ⟨#[c]⟩ ≠ [] := by
    have := PyProof.Rows.split_pos x ⟨#[c]⟩
    intro z
    rw [z] at this
    cases this
  have h4 : cl x = jl c ((Txt.split x ⟨#[c]⟩).map cl) := by rw [← join_cl, h1]
  conv => rhs; rw [h4]
  refine (spl_jl (by simpa using h3) fun p hp => ?_).symm
  obtain ⟨w, hw, rfl⟩ := List.mem_map.mp hp
  exact h2 w hw
theorem split_ne (c : Nat) (x : Str) : Txt.split x ⟨#[c]⟩ ≠ [] := fun z => by
  have := split_cl c x
  rw [z] at this
  exact spl_ne c (cl x) this.symm
theorem split_app {c : Nat} {a b : Str} (h : c ∉ cl a) {x : Str} (e : cl x = cl a ++ c :: cl b) : Txt.split x ⟨#[c]⟩ = a :: Txt.split b ⟨#[c]⟩ := by
  refine map_cl_inj ?_
  rw [List.map_cons, split_cl, split_cl, e, spl_app h]
theorem split_free {c : Nat} {x : Str} (h : c ∉ cl x) : Txt.split x ⟨#[c]⟩ = [x] := by
  refine map_cl_inj ?_
  rw [split_cl, spl_free h]
  rfl
/-! ### what a number is -/
def isNum (l : List Nat) : Bool := decide (l ≠ []) && decide (l.length ≤ 40) && l.all (fun c => decide (48 ≤ c) && decide (c ≤ 57)) && (decide (l = [48]) || decide (l.head? ≠ some 48))
def val (l : List Nat) : Int := (NumText.digitsVal l : Nat)
theorem isNum_iff {l : List Nat} : isNum l = true ↔ l ≠ [] ∧ l.length ≤ 40 ∧ NumText.AllDigits l ∧ (l = [48] ∨ l.head? ≠ some 48) := by
  simp [isNum, NumText.AllDigits, and_assoc]
theorem isNum_num {n : Nat} (h : n < 10 ^ 40) : isNum (numL n) = true := by
  refine isNum_iff.mpr ⟨numL_ne n, numL_len 39 n h, numL_digits n, ?_⟩
  by_cases q : n = 0
  · subst q; exact .inl (numL_lt (by decide))
  · obtain ⟨c, r, e, hc⟩ := numL_head n (by omega)
    exact .inr (by rw [e]; simpa using hc)
theorem val_num (n : Nat) : val (numL n) = n := by unfold val; rw [numL_val]
end MS
end
section
set_option Elab.async false
set_option linter.all false
set_option maxRecDepth 100000
set_option maxHeartbeats 4000000
namespace K01
open PySem PySem.Spec PyProof.Rows L2 Mir MS
abbrev bt (k : Int) : Exn := ⟨"BadText", ["line"], [.int k]⟩
abbrev faultD (k : Int) : D := .tup [.str (PySem.Str.ofString "BadText"), .int k]
/-- a word's size and signs -/
def Fine (w : Str) : Prop := w.length ≤ 100000 ∧ ∀ c ∈ cl w, c < 128
theorem Fine.cp {w : Str} (h : Fine w) : cpOk w = true := cpOk_of fun c hc => by have := h.2 c hc; omega
theorem figs_in (c : Nat) : oInS true (.str ⟨#[c]⟩) (.str v_FIGURES) = some (.bl (!(decide (48 ≤ c) && decide (c ≤ 57))), .str ⟨#[c]⟩, .str v_FIGURES) := by
  unfold oInS
  simp only [if_true]
  rw [StrLaws.found_one]
  have e : v_FIGURES.cps.toList = [48, 49, 50, 51, 52, 53, 54, 55, 56, 57] := by decide +kernel
  rw [e]
  congr 3
  by_cases h : 48 ≤ c ∧ c ≤ 57
  · have hm : c ∈ [48, 49, 50, 51, 52, 53, 54, 55, 56, 57] := by simp; omega
    simp [h.1, h.2]
    omega
  · have : (decide (48 ≤ c) && decide (c ≤ 57)) = false := by
      cases q : (decide (48 ≤ c) && decide (c ≤ 57)) with
      | false => rfl
      | true => simp at q; exact absurd q h
    rw [this]
    have hm : c ∉ [48, 49, 50, 51, 52, 53, 54, 55, 56, 57] := by simp; omega
    simp at hm ⊢
    omega
theorem fig_loop (w : D) : ∀ (l : List Nat) (a : Option D), ∃ a', loopM (stv 1) (ifM (asB (ev2 (.slot 1) (.tmp (pure (.str v_FIGURES))) (oInS true))) (retM (pure (.bl false))) (pure .nx)) (l.map fun c => .str ⟨#[c]⟩) [some w, a] =
      .ok (if l.all (fun c => decide (48 ≤ c) && decide (c ≤ 57)) = true then .nx else .rt (.bl false)) [some w, a']
  | [], a => ⟨a, by simp⟩
  | c :: l, a => by
    by_cases h : (decide (48 ≤ c) && decide (c ≤ 57)) = true
    · obtain ⟨a', e⟩ := fig_loop w l (some (.str ⟨#[c]⟩))
      refine ⟨a', ?_⟩
      rw [List.map_cons, loopM_cons, List.all_cons, h, Bool.true_and, ← e]
      simp [figs_in, h]
    · have h' : (decide (48 ≤ c) && decide (c ≤ 57)) = false := by simpa using h
      refine ⟨some (.str ⟨#[c]⟩), ?_⟩
      rw [List.map_cons, loopM_cons, List.all_cons, h', Bool.false_and]
      simp [figs_in, h']
theorem signs_cl (z : Str) : signsD z = (cl z).map fun c => D.str ⟨#[c]⟩ := rfl
theorem is_number_is {w : Str} (h : Fine w) : m_is_number [.str w] = .ok (.bl (isNum (cl w))) [.non] := by
  have e0 := oEq_ss (x := w) (y := PySem.Str.ofString "") h.cp (by decide +kernel)
  have e1 := oEq_ss (x := w) (y := PySem.Str.ofString "0") h.cp (by decide +kernel)
  have el : oLen (.str w) = some (.int (w.length : Nat), .str w) := by
    show (if w.length ≤ sizeLine then _ else _) = _
    rw [if_pos (by rw [sizeL]; have := h.1; omega)]
  have emp : (w = PySem.Str.ofString "") ↔ cl w = [] := ⟨fun z => by rw [z]; rfl, fun z => str_ext z⟩
  have zer : (w = PySem.Str.ofString "0") ↔ cl w = [48] := ⟨fun z => by rw [z]; decide +kernel, fun z => str_ext (by rw [z]; decide +kernel)⟩
  obtain ⟨a', ef⟩ := fig_loop (.str w) (cl w) none
  have hl : w.length = (cl w).length := (cl_len w).symm
  by_cases c1 : w = PySem.Str.ofString ""
  · have : isNum (cl w) = false := by unfold isNum; simp [emp.mp c1]
    rw [this]
    refine def_rt (ρ' := [some (.str w), none]) ?_ (by simp [outsOf]) rfl (by simp)
    refine seq_ret ?_
    rw [decide_eq_true c1] at e0
    simp [Mir.envOf, e0]
  rw [decide_eq_false c1] at e0
  by_cases c2 : 40 < w.length
  · have : isNum (cl w) = false := by unfold isNum; simp; intro _ z; omega
    rw [this]
    refine def_rt (ρ' := [some (.str w), none]) ?_ (by simp [outsOf]) rfl (by simp)
    refine seq_ret ?_
    simp [Mir.envOf, e0, el]
    omega
  cases c3 : (cl w).all (fun c => decide (48 ≤ c) && decide (c ≤ 57)) with
  | false =>
    have : isNum (cl w) = false := by unfold isNum; simp [c3]
    rw [this]
    rw [c3] at ef
    refine def_rt (ρ' := [some (.str w), a']) ?_ (by simp [outsOf]) rfl (by simp)
    refine seq_step (ρ1 := [some (.str w), none]) ?_ ?_
    · simp [Mir.envOf, e0, el]; omega
    refine seq_ret ?_
    simp [signs_cl, ef]
  | true =>
    rw [c3] at ef
    have hne : cl w ≠ [] := fun z => c1 (emp.mpr z)
    obtain ⟨d, r, edr⟩ : ∃ d r, cl w = d :: r := by
      cases q : cl w with
      | nil => exact absurd q hne
      | cons d r => exact ⟨d, r, rfl⟩
    have eix : oIx (.str w) (.int 0) = some (.str ⟨#[d]⟩, .str w, .int 0) := oIx_str (by rw [sizeL]; have := h.1; omega) (by unfold atI ixN; rw [edr]; simp)
    have dlt : d < 128 := h.2 d (by rw [edr]; exact List.mem_cons_self)
    have e2 := oNe_ss (x := (⟨#[d]⟩ : Str)) (y := PySem.Str.ofString "0") (by unfold cpOk; simp; omega) (by decide +kernel)
    have d0 : ((⟨#[d]⟩ : Str) = PySem.Str.ofString "0") ↔ d = 48 := ⟨fun z => by
      have := congrArg cl z
      have e : cl (PySem.Str.ofString "0") = [48] := by decide +kernel
      rw [e] at this
      simpa [cl] using this, fun z => by subst z; decide +kernel⟩
    refine def_rt (ρ' := [some (.str w), a']) ?_ (by simp [outsOf]) rfl (by simp)
    refine seq_step (ρ1 := [some (.str w), none]) ?_ ?_
    · simp [Mir.envOf, e0, el]; omega
    refine seq_step (ρ1 := [some (.str w), a']) ?_ ?_
    · simp [signs_cl, ef]
    have key : isNum (cl w) = (decide (w = PySem.Str.ofString "0") || !decide ((⟨#[d]⟩ : Str) = PySem.Str.ofString "0")) := by
      unfold isNum
      rw [c3]
      have l40 : (cl w).length ≤ 40 := by omega
      simp only [hne, l40, ne_eq, not_false_eq_true, decide_true, Bool.and_true, Bool.true_and, decide_eq_decide.mpr zer, decide_eq_decide.mpr d0]
      rw [edr]
      simp
    rw [key]
    cases z : decide (w = PySem.Str.ofString "0") with
    | true =>
      rw [z] at e1
      simp [e1]
    | false =>
      rw [z] at e1
      simp [e1, eix, e2]
end K01
end
section
set_option Elab.async false
set_option linter.all false
set_option maxRecDepth 100000
set_option maxHeartbeats 4000000
namespace K01
open PySem PySem.Spec PyProof.Rows L2 Mir MS
def rdL (l : List Nat) : Option Int := if isNum l = true then some (val l) else none
theorem oLen_s {w : Str} (h : Fine w) : oLen (.str w) = some (.int (w.length : Nat), .str w) := by
  show (if w.length ≤ sizeLine then _ else _) = _
  rw [if_pos (by rw [sizeL]; have := h.1; omega)]
theorem bt_raise {ρ : Mir.Env} {j : Nat} {k : Int} (e : ρ[j]? = some (some (.int k))) : raiseErr "BadText" ["line"] (PySem.Str.ofString "bad text") false (consM (rdv j) (pure [])) ρ = .err (bt k) (ρ.set j (some (.int k))) := by
  simp [e]
theorem read_number_is {w : Str} (h : Fine w) (k : Int) : m_read_number [.str w, .int k] = match rdL (cl w) with | some n => .ok (.int n) [.non, .non] | none => .err (bt k) := by
  have e := is_number_is h
  unfold rdL
  cases q : isNum (cl w) with
  | false =>
    rw [q] at e
    simp only [Bool.false_eq_true, if_false]
    refine def_err (ρ' := [some (.str w), some (.int k)]) ?_ rfl (by simp)
    refine seq_err ?_
    simp [Mir.envOf, e]
  | true =>
    rw [q] at e
    simp only [if_true]
    obtain ⟨h1, h2, h3, h4⟩ := isNum_iff.mp q
    have ei : oInt (.str w) = some (.int (val (cl w)), .str w) := by
      have := PySem.intText_digits (x := w) h3 h1 (by rw [← cl_len]; omega)
      show (match PySem.intText? w with | some n => _ | none => _) = _
      rw [this]
      show (if w.length ≤ 640 then _ else _) = _
      rw [if_pos (by rw [← cl_len]; omega)]
      rfl
    refine def_rt (ρ' := [some (.str w), some (.int k)]) ?_ (by simp [outsOf]) rfl (by simp)
    refine seq_step (ρ1 := [some (.str w), some (.int k)]) (by simp [Mir.envOf, e]) ?_
    simp [ei]
def sgL (l : List Nat) : Option Int := if l.head? = some 45 then (match rdL l.tail with | some n => if n = 0 then none else some (-n) | none => none) else rdL l
theorem val_nn (l : List Nat) : 0 ≤ val l := by unfold val; omega
theorem cut_first (w : Str) : cl (cutS w none (some 1)) = (cl w).take 1 := by
  show ((w.cps.toList.drop (HT.sIx w.length 0 none)).take (HT.sIx w.length w.length (some 1) - HT.sIx w.length 0 none)).toArray.toList = _
  rw [HT.sIx_none, show (some (1 : Int)) = some ((1 : Nat) : Int) from rfl, HT.sIx_nat]
  show (w.cps.toList.drop 0).take (min 1 w.length - 0) = w.cps.toList.take 1
  rw [List.drop_zero, Nat.sub_zero]
  cases q : w.cps.toList with
  | nil => simp
  | cons a r =>
    have : 1 ≤ w.length := by rw [← cl_len]; unfold cl; rw [q]; simp
    rw [Nat.min_eq_left this]
theorem cut_rest (w : Str) : cl (cutS w (some 1) none) = (cl w).drop 1 := by
  show ((w.cps.toList.drop (HT.sIx w.length 0 (some 1))).take (HT.sIx w.length w.length none - HT.sIx w.length 0 (some 1))).toArray.toList = _
  rw [HT.sIx_none, show (some (1 : Int)) = some ((1 : Nat) : Int) from rfl, HT.sIx_nat]
  show (w.cps.toList.drop (min 1 w.length)).take (w.length - min 1 w.length) = w.cps.toList.drop 1
  have hl : w.cps.toList.length = w.length := cl_len w
  cases q : w.cps.toList with
  | nil => simp
  | cons a r =>
    have h1 : 1 ≤ w.length := by rw [← hl, q]; simp
    rw [Nat.min_eq_left h1]
    have h2 : (a :: r).length = w.length := by rw [← q]; exact hl
    rw [← h2]
    simp
theorem Fine.rest {w v : Str} (h : Fine w) (hl : cl v = (cl w).drop 1) : Fine v := by
  refine ⟨?_, fun c hc => h.2 c ?_⟩
  · rw [← cl_len, hl, List.length_drop, cl_len]
    have := h.1
    omega
  · rw [hl] at hc
    exact List.mem_of_mem_drop hc
theorem read_signed_is {w : Str} (h : Fine w) (k : Int) : m_read_signed [.str w, .int k] = match sgL (cl w) with | some n => .ok (.int n) [.non, .non] | none => .err (bt k) := by
  have e := read_number_is h k
  have hz : w.length ≤ sizeLine := by rw [sizeL]; have := h.1; omega
  have es : oSl (.str w) none (some 1) = some (.str (cutS w none (some 1)), .str w) := by
    show (if w.length ≤ sizeLine then _ else _) = _
    rw [if_pos hz]
  have er : oSl (.str w) (some 1) none = some (.str (cutS w (some 1) none), .str w) := by
    show (if w.length ≤ sizeLine then _ else _) = _
    rw [if_pos hz]
  have fr : Fine (cutS w (some 1) none) := h.rest (cut_rest w)
  have e2 := read_number_is fr k
  have en := oNe_ss (x := cutS w none (some 1)) (y := PySem.Str.ofString "-") (cpOk_of fun c hc => by
    rw [cut_first] at hc
    have := h.2 c (List.mem_of_mem_take hc)
    omega) (by decide +kernel)
  have hd : (cutS w none (some 1) = PySem.Str.ofString "-") ↔ (cl w).head? = some 45 := by
    have em : cl (PySem.Str.ofString "-") = [45] := by decide +kernel
    constructor
    · intro z
      have := congrArg cl z
      rw [cut_first, em] at this
      cases q : cl w with
      | nil => rw [q] at this; cases this
      | cons a r => rw [q] at this; simp at this; simp [this]
    · intro z
      refine str_ext ?_
      rw [cut_first, em]
      cases q : cl w with
      | nil => rw [q] at z; cases z
      | cons a r => rw [q] at z; simp at z; simp [z]
  unfold sgL
  by_cases c1 : (cl w).head? = some 45
  · rw [decide_eq_true (hd.mpr c1)] at en
    rw [if_pos c1]
    have tl : (cl w).tail = (cl w).drop 1 := by simp
    rw [tl, ← cut_rest]
    cases q : rdL (cl (cutS w (some 1) none)) with
    | none =>
      rw [q] at e2
      refine def_err (ρ' := [some (.str w), some (.int k), none]) ?_ rfl (by simp)
      unfold g_read_signed
      rw [seqM_app]
      simp [Mir.envOf, es, en, er, e2]
    | some n =>
      rw [q] at e2
      by_cases c2 : n = 0
      · simp only [c2, if_true]
        refine def_err (ρ' := [some (.str w), some (.int k), some (.int n)]) ?_ rfl (by simp)
        unfold g_read_signed
        rw [seqM_app]
        simp [Mir.envOf, es, en, er, e2, c2]
      · simp only [c2, if_false]
        refine def_rt (ρ' := [some (.str w), some (.int k), some (.int n)]) ?_ (by simp [outsOf]) rfl (by simp)
        unfold g_read_signed
        rw [seqM_app]
        simp [Mir.envOf, es, en, er, e2, c2]
  · rw [decide_eq_false (fun z => c1 (hd.mp z))] at en
    rw [if_neg c1]
    cases q : rdL (cl w) with
    | none =>
      rw [q] at e
      refine def_err (ρ' := [none, none, none]) ?_ rfl (by simp)
      unfold g_read_signed
      rw [seqM_app]
      simp [Mir.envOf, es, en, e]
    | some n =>
      rw [q] at e
      refine def_rt (ρ' := [none, none, none]) ?_ (by simp [outsOf]) rfl (by simp)
      unfold g_read_signed
      rw [seqM_app]
      simp [Mir.envOf, es, en, e]
end K01
end
section
set_option Elab.async false
set_option linter.all false
set_option maxRecDepth 100000
set_option maxHeartbeats 4000000
namespace MS
open PySem PySem.Spec PyProof.Rows L2 Mir
abbrev intsD (o : Bool) (ns : List Int) : D := .lst o (ns.map .int)
theorem ixN_k {n k : Nat} (h : k < n) {i : Int} (e : i = k) : ixN n i = some k := by
  subst e
  unfold ixN
  simp
  exact h
theorem ints_ix {o : Bool} {ns : List Int} {k : Nat} {n : Int} (h : ns[k]? = some n) {i : Int} (e : i = k) : oIx (intsD o ns) (.int i) = some (.int n, intsD o ns, .int i) := by
  have hk : (ns.map D.int)[k]? = some (.int n) := by rw [List.getElem?_map, h]; rfl
  rw [oIx_l (ixN_k (by rw [List.length_map]; exact ltE h) e) hk, fz_int, set_same hk]
theorem rangeD_zero (lo : Int) : rangeD lo 0 = [] := rfl
theorem rangeD_succ (lo : Int) (n : Nat) : rangeD lo (n + 1) = .int lo :: rangeD (lo + 1) n := by
  unfold rangeD
  rw [List.range_succ_eq_map, List.map_cons, List.map_map]
  refine congr (congrArg List.cons (by simp)) (List.map_congr_left fun a _ => ?_)
  show D.int _ = D.int _
  congr 1
  simp
  omega
def asc : List Int → Bool
  | [] => true
  | [_] => true
  | a :: b :: r => decide (a < b) && asc (b :: r)
theorem asc_iff : ∀ {ns : List Int}, asc ns = true ↔ ns.Pairwise (· < ·)
  | [] => by simp [asc]
  | [a] => by simp [asc]
  | a :: b :: r => by
    rw [asc, Bool.and_eq_true, decide_eq_true_eq, asc_iff, List.pairwise_cons (a := a)]
    constructor
    · rintro ⟨h1, h2⟩
      refine ⟨fun x hx => ?_, h2⟩
      rcases List.mem_cons.mp hx with e | e
      · rw [e]; exact h1
      · have := (List.pairwise_cons.mp h2).1 x e
        omega
    · rintro ⟨h1, h2⟩
      exact ⟨h1 b List.mem_cons_self, h2⟩
end MS
namespace K01
open PySem PySem.Spec PyProof.Rows L2 Mir MS
theorem asc_loop {o : Bool} {ns : List Int} : ∀ (m k : Nat) (a : Option D), k + 1 + m = ns.length → ∃ a', loopM (stv 1)
    (ifM (asB (ev2 (.tmp (ev2 (.slot 0) (.tmp (ev2 (.slot 1) (.tmp (pure (.int 1))) oSub)) oIx)) (.tmp (ev2 (.slot 0) (.slot 1) oIx)) oGe)) (retM (pure (.bl false))) (pure .nx))
    (rangeD ((k : Int) + 1) m) [some (intsD o ns), a] = .ok (if asc (ns.drop k) = true then .nx else .rt (.bl false)) [some (intsD o ns), a']
  | 0, k, a, h => by
    refine ⟨a, ?_⟩
    have e : asc (ns.drop k) = true := by
      cases q : ns.drop k with
      | nil => rfl
      | cons x r =>
        have hl := congrArg List.length q
        rw [List.length_drop, List.length_cons] at hl
        have : r = [] := List.length_eq_zero_iff.mp (by omega)
        rw [this]
        rfl
    rw [rangeD_zero, e]
    rfl
  | m + 1, k, a, h => by
    obtain ⟨x, hx⟩ : ∃ x, ns[k]? = some x := ⟨_, List.getElem?_eq_getElem (by omega)⟩
    obtain ⟨y, hy⟩ : ∃ y, ns[k + 1]? = some y := ⟨_, List.getElem?_eq_getElem (by omega)⟩
    have ed : ns.drop k = x :: y :: ns.drop (k + 2) := by rw [drop_at hx, drop_at hy]
    have ed2 : ns.drop (k + 1) = y :: ns.drop (k + 2) := drop_at hy
    obtain ⟨a', e⟩ := asc_loop (o := o) (ns := ns) m (k + 1) (some (.int ((k : Int) + 1))) (by omega)
    have i1 := ints_ix (o := o) hx (i := (k : Int)) rfl
    have i2 := ints_ix (o := o) hy (i := (k : Int) + 1) (by omega)
    rw [rangeD_succ, loopM_cons, ed, asc]
    have e' : loopM (stv 1) (ifM (asB (ev2 (.tmp (ev2 (.slot 0) (.tmp (ev2 (.slot 1) (.tmp (pure (.int 1))) oSub)) oIx)) (.tmp (ev2 (.slot 0) (.slot 1) oIx)) oGe)) (retM (pure (.bl false))) (pure .nx))
        (rangeD ((k : Int) + 1 + 1) m) [some (intsD o ns), some (.int ((k : Int) + 1))] = .ok (if asc (y :: ns.drop (k + 2)) = true then .nx else .rt (.bl false)) [some (intsD o ns), a'] := by
      rw [← ed2]
      exact e
    by_cases hlt : x < y
    · refine ⟨a', ?_⟩
      have hn : ¬ y ≤ x := by omega
      simp only [hlt, decide_true, Bool.true_and]
      rw [← e']
      simp [i1, i2, hn]
    · refine ⟨some (.int ((k : Int) + 1)), ?_⟩
      have hn : y ≤ x := by omega
      simp [i1, i2, hn, hlt]
theorem ascending_is {o : Bool} {ns : List Int} (h : ns.length ≤ 1000000) : m_ascending [intsD o ns] = .ok (.bl (asc ns)) [intsD o ns] := by
  have hi : Mir.inR 1 = true := inR_of (by omega) (by omega)
  have hj : Mir.inR (ns.length : Nat) = true := inR_of (by omega) (by omega)
  have e0 : consM (pure (.int 1)) (consM (ev1 (.slot 0) oLen) (pure [])) [some (intsD o ns), none] = .ok [.int 1, .int (ns.length : Nat)] [some (intsD o ns), none] := by simp
  have ef := fun body => forR2_app (tg := stv 1) (body := body) e0 hi hj
  have lp : ∃ a', loopM (stv 1) (ifM (asB (ev2 (.tmp (ev2 (.slot 0) (.tmp (ev2 (.slot 1) (.tmp (pure (.int 1))) oSub)) oIx)) (.tmp (ev2 (.slot 0) (.slot 1) oIx)) oGe)) (retM (pure (.bl false))) (pure .nx))
      (rangeD 1 (((ns.length : Nat) : Int) - 1).toNat) [some (intsD o ns), none] = .ok (if asc ns = true then .nx else .rt (.bl false)) [some (intsD o ns), a'] := by
    by_cases z : ns.length = 0
    · have : ns = [] := List.length_eq_zero_iff.mp z
      subst this
      exact ⟨none, rfl⟩
    · have := asc_loop (o := o) (ns := ns) (ns.length - 1) 0 none (by omega)
      rw [List.drop_zero] at this
      rw [show (((ns.length : Nat) : Int) - 1).toNat = ns.length - 1 from by omega]
      exact this
  obtain ⟨a', el⟩ := lp
  cases q : asc ns with
  | true =>
    rw [q] at el
    refine def_rt (ρ' := [some (intsD o ns), a']) ?_ (by simp [outsOf]) rfl (by simp)
    refine seq_step (ρ1 := [some (intsD o ns), a']) ?_ (by simp)
    exact (ef _).trans el
  | false =>
    rw [q] at el
    refine def_rt (ρ' := [some (intsD o ns), a']) ?_ (by simp [outsOf]) rfl (by simp)
    refine seq_ret ?_
    exact (ef _).trans el
end K01
end
section
set_option Elab.async false
set_option linter.all false
set_option maxRecDepth 100000
set_option maxHeartbeats 4000000
namespace MS
open PySem PySem.Spec PyProof.Rows L2 Mir
theorem spl_len {c : Nat} : ∀ {l : List Nat} {p : List Nat}, p ∈ spl c l → p.length ≤ l.length ∧ ∀ d ∈ p, d ∈ l
  | [], p, h => by
    rw [spl, List.mem_singleton] at h
    subst h
    simp
  | d :: l, p, h => by
    rw [spl] at h
    split at h
    · rcases List.mem_cons.mp h with e | e
      · subst e; simp
      · have := spl_len e
        exact ⟨by rw [List.length_cons]; omega, fun x hx => List.mem_cons_of_mem _ (this.2 x hx)⟩
    · cases q : spl c l with
      | nil => exact absurd q (spl_ne c l)
      | cons a ps =>
        rw [q] at h
        rcases List.mem_cons.mp h with e | e
        · subst e
          have := spl_len (c := c) (l := l) (p := a) (by rw [q]; exact List.mem_cons_self)
          refine ⟨by rw [List.length_cons, List.length_cons]; omega, fun x hx => ?_⟩
          rcases List.mem_cons.mp hx with e | e
          · rw [e]; exact List.mem_cons_self
          · exact List.mem_cons_of_mem _ (this.2 x e)
        · have := spl_len (c := c) (l := l) (p := p) (by rw [q]; exact List.mem_cons_of_mem _ e)
          exact ⟨by rw [List.length_cons]; omega, fun x hx => List.mem_cons_of_mem _ (this.2 x hx)⟩
theorem spl_many {c : Nat} : ∀ {l : List Nat}, (spl c l).length ≤ l.length + 1
  | [] => by simp [spl]
  | d :: l => by
    rw [spl]
    have := spl_many (c := c) (l := l)
    split
    · simp; omega
    · cases q : spl c l with
      | nil => simp [consH]
      | cons a ps =>
        rw [q] at this
        simp [consH] at this ⊢
        omega
abbrev strsD (o : Bool) (ws : List Str) : D := .lst o (ws.map .str)
theorem strs_fz (ws : List Str) : fzL (ws.map D.str) = ws.map D.str := by
  rw [fzL_map, List.map_map]
  rfl
theorem oSplit_ok {w : Str} {c : Nat} (h : w.length ≤ 100000) : oSplit (.str w) (.str ⟨#[c]⟩) = some (strsD true (Txt.split w ⟨#[c]⟩), .str w, .str ⟨#[c]⟩) := by
  unfold oSplit
  simp only []
  rw [if_pos ⟨rfl, by rw [sizeL]; omega⟩]
theorem mapM_strs {f : List Nat → Option Int} {F : D → Option D} (hF : ∀ w, F (.str w) = (f (cl w)).map D.int) : ∀ ws : List Str, (ws.map D.str).mapM F = ((ws.map cl).mapM f).map (List.map D.int)
  | [] => rfl
  | w :: ws => by
    have ih := mapM_strs hF ws
    rw [List.map_cons, List.map_cons, List.mapM_cons, List.mapM_cons, hF, ih]
    cases f (cl w) with
    | none => rfl
    | some n => cases (ws.map cl).mapM f <;> rfl
theorem mapM_len {f : List Nat → Option Int} : ∀ {ps : List (List Nat)} {ns : List Int}, ps.mapM f = some ns → ns.length = ps.length
  | [], ns, h => by cases h; rfl
  | p :: ps, ns, h => by
    rw [List.mapM_cons] at h
    cases q : f p with
    | none => rw [q] at h; cases h
    | some n =>
      cases q2 : ps.mapM f with
      | none => rw [q, q2] at h; cases h
      | some ms =>
        rw [q, q2] at h
        cases h
        rw [List.length_cons, List.length_cons, mapM_len q2]
end MS
namespace K01
open PySem PySem.Spec PyProof.Rows L2 Mir MS
theorem Fine.part {w v : Str} {c : Nat} (h : Fine w) (hv : v ∈ Txt.split w ⟨#[c]⟩) : Fine v := by
  have hm : cl v ∈ spl c (cl w) := by rw [← split_cl]; exact List.mem_map_of_mem hv
  have := spl_len hm
  refine ⟨?_, fun d hd => h.2 d (this.2 d hd)⟩
  rw [← cl_len]
  have h1 := h.1
  rw [← cl_len] at h1
  omega
theorem split_lt {w : Str} {c : Nat} (h : Fine w) : (Txt.split w ⟨#[c]⟩).length ≤ 100001 := by
  have := spl_many (c := c) (l := cl w)
  rw [← split_cl, List.length_map] at this
  have h1 := h.1
  rw [← cl_len] at h1
  omega
def setR (l : List Nat) : Option (List Int) := if l = [45] then some [] else match (spl 44 l).mapM rdL with
  | some ns => if asc ns = true then some ns else none
  | none => none
def rowR (l : List Nat) : Option (List Int) := if l = [45] then some [] else (spl 62 l).mapM rdL
theorem dash {w : Str} (h : Fine w) : oEq (.str w) (.str (PySem.Str.ofString "-")) = some (.bl (decide (cl w = [45])), .str w, .str (PySem.Str.ofString "-")) := by
  rw [oEq_ss h.cp (by decide +kernel)]
  congr 3
  have em : cl (PySem.Str.ofString "-") = [45] := by decide +kernel
  exact decide_eq_decide.mpr ⟨fun z => by rw [z, em], fun z => str_ext (by rw [z, em])⟩
def FD (d : D) : Option D := match d with
  | .str v => (rdL (cl v)).map D.int
  | _ => none
theorem ints_fz (ns : List Int) : fzL (ns.map D.int) = ns.map D.int := fzL_ints ns
theorem asg_ok {f : M D} {i : Nat} {ρ ρ1 : Mir.Env} {d : D} (e : f ρ = .ok d ρ1) (hi : i < ρ1.length) (hx : isx d = false) : asgM f (stv i) ρ = .ok .nx (ρ1.set i (some d)) := by
  rw [asgM_app, e, bnd_ok, noX_stv, stv_app hi hx]
  rfl
theorem read_set_is {w : Str} (h : Fine w) (k : Int) : m_read_set [.str w, .int k] = match setR (cl w) with | some ns => .ok (intsD true ns) [.non, .non] | none => .err (bt k) := by
  have ed := dash h
  by_cases c1 : cl w = [45]
  · rw [show setR (cl w) = some [] from by unfold setR; rw [if_pos c1]]
    rw [decide_eq_true c1] at ed
    show m_read_set [.str w, .int k] = .ok (intsD true []) [.non, .non]
    refine def_rt (ρ' := [some (.str w), some (.int k), none, none]) ?_ (by simp [outsOf]) rfl (by simp)
    refine seq_ret ?_
    simp [Mir.envOf, ed, sizeL]
  · rw [decide_eq_false c1] at ed
    have es := oSplit_ok (w := w) (c := 44) h.1
    have run := compX_run (vs := [3]) (tg := stv 3) (elt := callM m_read_number [.tmp (rdv 3), .tmp (rdv 1)]) (ρ := [none, some (.int k), none, none]) (x := bt k) FD rfl ((Txt.split w ⟨#[44]⟩).map D.str) [] (fun d hd => by
      obtain ⟨v, hv, rfl⟩ := List.mem_map.mp hd
      have e := read_number_is (h.part hv) k
      refine ⟨[none, some (.int k), none, some (.str v)], [none, some (.int k), none, some (.str v)], by simp, rfl, ?_⟩
      show _ = (match (rdL (cl v)).map D.int with | some y => _ | none => _)
      cases q : rdL (cl v) with
      | none => rw [q] at e; simp [e]
      | some n => rw [q] at e; simp [e]) (by
      have := split_lt (c := 44) h
      rw [sizeL, List.length_map]
      simp
      omega)
    rw [mapM_strs (f := rdL) (F := FD) (fun w => rfl), split_cl] at run
    have ec : lcE [3] (evM1 (mvv 0) (.tmp (pure (.str (PySem.Str.ofString ",")))) oSplit) (stv 3) (pure true) (callM m_read_number [.tmp (rdv 3), .tmp (rdv 1)]) [some (.str w), some (.int k), none, none] =
        (match (spl 44 (cl w)).mapM rdL with | some ns => .ok (intsD true ns) [none, some (.int k), none, none] | none => .err (bt k) [none, some (.int k), none, none]) := by
      have e0 : evM1 (mvv 0) (.tmp (pure (.str (PySem.Str.ofString ",")))) oSplit [some (.str w), some (.int k), none, none] = .ok (strsD true (Txt.split w ⟨#[44]⟩)) [none, some (.int k), none, none] := by
        have es' : oSplit (.str w) (.str (PySem.Str.ofString ",")) = _ := es
        simp [es']
      rw [lcE_app e0, strs_fz]
      show (compX [3] (stv 3) (pure true) (callM m_read_number [.tmp (rdv 3), .tmp (rdv 1)]) _ [] [none, some (.int k), none, none]).bnd _ = _
      rw [run]
      cases (spl 44 (cl w)).mapM rdL <;> rfl
    cases q : (spl 44 (cl w)).mapM rdL with
    | none =>
      rw [q] at ec
      rw [show setR (cl w) = none from by unfold setR; rw [if_neg c1, q]]
      show m_read_set [.str w, .int k] = .err (bt k)
      refine def_err (ρ' := [none, some (.int k), none, none]) ?_ rfl (by simp)
      refine seq_step (ρ1 := [some (.str w), some (.int k), none, none]) (by simp [Mir.envOf, ed]) ?_
      refine seq_err ?_
      rw [asgM_app, ec]
      rfl
    | some ns =>
      rw [q] at ec
      have hn : ns.length ≤ 1000000 := by
        have h1 := mapM_len q
        rw [← split_cl, List.length_map] at h1
        have := split_lt (c := 44) h
        omega
      have ea := ascending_is (o := true) hn
      cases q2 : asc ns with
      | true =>
        rw [q2] at ea
        rw [show setR (cl w) = some ns from by unfold setR; rw [if_neg c1, q]; simp [q2]]
        show m_read_set [.str w, .int k] = .ok (intsD true ns) [.non, .non]
        refine def_rt (ρ' := [none, some (.int k), none, none]) ?_ (by simp [outsOf]) rfl (by simp)
        refine seq_step (ρ1 := [some (.str w), some (.int k), none, none]) (by simp [Mir.envOf, ed]) ?_
        refine seq_step (ρ1 := [none, some (.int k), some (intsD true ns), none]) (asg_ok (i := 2) ec (by simp) rfl) ?_
        refine seq_step (ρ1 := [none, some (.int k), some (intsD true ns), none]) (by obtain ⟨f, hf⟩ : ∃ f, f = m_ascending := ⟨_, rfl⟩; rw [← hf] at ea ⊢; simp [ea]) ?_
        simp
      | false =>
        rw [q2] at ea
        rw [show setR (cl w) = none from by unfold setR; rw [if_neg c1, q]; simp [q2]]
        show m_read_set [.str w, .int k] = .err (bt k)
        refine def_err (ρ' := [none, some (.int k), some (intsD true ns), none]) ?_ rfl (by simp)
        refine seq_step (ρ1 := [some (.str w), some (.int k), none, none]) (by simp [Mir.envOf, ed]) ?_
        refine seq_step (ρ1 := [none, some (.int k), some (intsD true ns), none]) (asg_ok (i := 2) ec (by simp) rfl) ?_
        refine seq_err ?_
        obtain ⟨f, hf⟩ : ∃ f, f = m_ascending := ⟨_, rfl⟩
        rw [← hf] at ea ⊢
        simp [ea]
theorem read_row_is {w : Str} (h : Fine w) (k : Int) : m_read_row [.str w, .int k] = match rowR (cl w) with | some ns => .ok (intsD true ns) [.non, .non] | none => .err (bt k) := by
  have ed := dash h
  by_cases c1 : cl w = [45]
  · rw [show rowR (cl w) = some [] from by unfold rowR; rw [if_pos c1]]
    rw [decide_eq_true c1] at ed
    show m_read_row [.str w, .int k] = .ok (intsD true []) [.non, .non]
    refine def_rt (ρ' := [some (.str w), some (.int k), none]) ?_ (by simp [outsOf]) rfl (by simp)
    refine seq_ret ?_
    simp [Mir.envOf, ed, sizeL]
  · rw [decide_eq_false c1] at ed
    have es := oSplit_ok (w := w) (c := 62) h.1
    have run := compX_run (vs := [2]) (tg := stv 2) (elt := callM m_read_number [.tmp (rdv 2), .tmp (rdv 1)]) (ρ := [none, some (.int k), none]) (x := bt k) FD rfl ((Txt.split w ⟨#[62]⟩).map D.str) [] (fun d hd => by
      obtain ⟨v, hv, rfl⟩ := List.mem_map.mp hd
      have e := read_number_is (h.part hv) k
      refine ⟨[none, some (.int k), some (.str v)], [none, some (.int k), some (.str v)], by simp, rfl, ?_⟩
      show _ = (match (rdL (cl v)).map D.int with | some y => _ | none => _)
      cases q : rdL (cl v) with
      | none => rw [q] at e; simp [e]
      | some n => rw [q] at e; simp [e]) (by
      have := split_lt (c := 62) h
      rw [sizeL, List.length_map]
      simp
      omega)
    rw [mapM_strs (f := rdL) (F := FD) (fun w => rfl), split_cl] at run
    have ec : lcE [2] (evM1 (mvv 0) (.tmp (pure (.str (PySem.Str.ofString ">")))) oSplit) (stv 2) (pure true) (callM m_read_number [.tmp (rdv 2), .tmp (rdv 1)]) [some (.str w), some (.int k), none] =
        (match (spl 62 (cl w)).mapM rdL with | some ns => .ok (intsD true ns) [none, some (.int k), none] | none => .err (bt k) [none, some (.int k), none]) := by
      have e0 : evM1 (mvv 0) (.tmp (pure (.str (PySem.Str.ofString ">")))) oSplit [some (.str w), some (.int k), none] = .ok (strsD true (Txt.split w ⟨#[62]⟩)) [none, some (.int k), none] := by
        have es' : oSplit (.str w) (.str (PySem.Str.ofString ">")) = _ := es
        simp [es']
      rw [lcE_app e0, strs_fz]
      show (compX [2] (stv 2) (pure true) (callM m_read_number [.tmp (rdv 2), .tmp (rdv 1)]) _ [] [none, some (.int k), none]).bnd _ = _
      rw [run]
      cases (spl 62 (cl w)).mapM rdL <;> rfl
    have er : rowR (cl w) = (spl 62 (cl w)).mapM rdL := by unfold rowR; rw [if_neg c1]
    rw [er]
    cases q : (spl 62 (cl w)).mapM rdL with
    | none =>
      rw [q] at ec
      refine def_err (ρ' := [none, some (.int k), none]) ?_ rfl (by simp)
      refine seq_step (ρ1 := [some (.str w), some (.int k), none]) (by simp [Mir.envOf, ed]) ?_
      rw [retM_app, ec]
      rfl
    | some ns =>
      rw [q] at ec
      refine def_rt (ρ' := [none, some (.int k), none]) ?_ (by simp [outsOf]) rfl (by simp)
      refine seq_step (ρ1 := [some (.str w), some (.int k), none]) (by simp [Mir.envOf, ed]) ?_
      rw [retM_app, ec]
      rfl
end K01
end
section
set_option Elab.async false
set_option linter.all false
set_option maxRecDepth 100000
set_option maxHeartbeats 4000000
namespace MS
open PySem PySem.Spec PyProof.Rows L2 Mir
abbrev prD (p : Int × Int) : D := .tup [.int p.1, .int p.2]
abbrev prsD (o : Bool) (ps : List (Int × Int)) : D := .lst o (ps.map prD)
theorem pairs_fz (ps : List (Int × Int)) : fzL (ps.map prD) = ps.map prD := by
  rw [fzL_map, List.map_map]
  rfl
theorem strs_ix {o : Bool} {ws : List Str} {k : Nat} {w : Str} (h : ws[k]? = some w) {i : Int} (e : i = k) : oIx (strsD o ws) (.int i) = some (.str w, strsD o ws, .int i) := by
  have hk : (ws.map D.str)[k]? = some (.str w) := by rw [List.getElem?_map, h]; rfl
  rw [oIx_l (ixN_k (by rw [List.length_map]; exact ltE h) e) hk, fz_str, set_same hk]
end MS
namespace K01
open PySem PySem.Spec PyProof.Rows L2 Mir MS
def pairR (p : List Nat) : Option (Int × Int) := match spl 58 p with
  | [a, b] => (match rdL a, sgL b with
    | some x, some y => some (x, y)
    | _, _ => none)
  | _ => none
def pairsR (l : List Nat) : Option (List (Int × Int)) := if l = [45] then some [] else match (spl 44 l).mapM pairR with
  | some ps => if asc (ps.map (·.1)) = true then some ps else none
  | none => none
abbrev pBody : M Flw := (seqM (asgM (evM1 (mvv 3) (.tmp (pure (.str (PySem.Str.ofString ":")))) oSplit) (stv 4))
    (seqM (ifM (asB (ev2 (.tmp (ev1 (.slot 4) oLen)) (.tmp (pure (.int 2))) oNe))
    (raiseErr "BadText" ["line"] (PySem.Str.ofString "bad text") false (consM (rdv 1) (pure [])))
    (pure .nx))
    (dropM (appM 2 (tupM (consM (callM m_read_number [.tmp (ev2 (.slot 4) (.tmp (pure (.int 0))) oIx), .tmp (rdv 1)]) (consM (callM m_read_signed [.tmp (ev2 (.slot 4) (.tmp (pure (.int 1))) oIx), .tmp (rdv 1)]) (pure []))))))))
theorem pair_turn {v : Str} (h : Fine v) {k : Int} {acc : List (Int × Int)} (ha : acc.length ≤ 1000000) {x4 : Option D} : ∃ x3' x4', pBody [none, some (.int k), some (prsD true acc), some (.str v), x4, none] =
    match pairR (cl v) with
    | some p => .ok .nx [none, some (.int k), some (prsD true (acc ++ [p])), x3', x4', none]
    | none => .err (bt k) [none, some (.int k), some (prsD true acc), x3', x4', none] := by
  have es : oSplit (.str v) (.str (PySem.Str.ofString ":")) = some (strsD true (Txt.split v ⟨#[58]⟩), .str v, .str (PySem.Str.ofString ":")) := oSplit_ok (w := v) (c := 58) h.1
  have ec := split_cl 58 v
  have hf : ∀ z ∈ Txt.split v ⟨#[58]⟩, Fine z := fun z hz => h.part hz
  unfold pairR
  rw [← ec]
  generalize Txt.split v ⟨#[58]⟩ = ws at es ec hf ⊢
  refine ⟨none, some (strsD true ws), ?_⟩
  have st1 : asgM (evM1 (mvv 3) (.tmp (pure (.str (PySem.Str.ofString ":")))) oSplit) (stv 4) [none, some (.int k), some (prsD true acc), some (.str v), x4, none] = .ok .nx [none, some (.int k), some (prsD true acc), none, some (strsD true ws), none] := by
    simp [es]
  match ws, hf with
  | [], _ =>
    refine seq_step st1 (seq_err ?_)
    simp
  | [_], _ =>
    refine seq_step st1 (seq_err ?_)
    simp
  | _ :: _ :: _ :: _, _ =>
    refine seq_step st1 (seq_err ?_)
    have : ∀ n : Nat, ¬ ((n : Int) + 1 + 1 + 1 = 2) := by omega
    simp [this]
  | [a, b], hf =>
    have fa := read_number_is (hf a List.mem_cons_self) k
    have fb := read_signed_is (hf b (by simp)) k
    have i0 : oIx (strsD true [a, b]) (.int 0) = some (.str a, strsD true [a, b], .int 0) := strs_ix (k := 0) rfl rfl
    have i1 : oIx (strsD true [a, b]) (.int 1) = some (.str b, strsD true [a, b], .int 1) := strs_ix (k := 1) rfl rfl
    refine seq_step st1 (seq_step (ρ1 := [none, some (.int k), some (prsD true acc), none, some (strsD true [a, b]), none]) (by simp) ?_)
    obtain ⟨f, hf⟩ : ∃ f, f = m_read_number := ⟨_, rfl⟩
    obtain ⟨g, hg⟩ : ∃ g, g = m_read_signed := ⟨_, rfl⟩
    rw [← hf] at fa ⊢
    rw [← hg] at fb ⊢
    have hz : acc.length < sizeLine := by rw [sizeL]; omega
    have hz2 : (2 : Nat) ≤ sizeLine := by rw [sizeL]; omega
    simp only [List.map_cons, List.map_nil]
    cases qa : rdL (cl a) with
    | none =>
      rw [qa] at fa
      simp [i0, fa]
    | some x =>
      rw [qa] at fa
      cases qb : sgL (cl b) with
      | none =>
        rw [qb] at fb
        simp [i0, i1, fa, fb]
      | some y =>
        rw [qb] at fb
        simp [i0, i1, fa, fb, hz, hz2]
end K01
end
section
set_option Elab.async false
set_option linter.all false
set_option maxRecDepth 100000
set_option maxHeartbeats 4000000
namespace K01
open PySem PySem.Spec PyProof.Rows L2 Mir MS
theorem pair_loop {k : Int} : ∀ (vs : List Str) (acc : List (Int × Int)) (x3 x4 : Option D), (∀ v ∈ vs, Fine v) → acc.length + vs.length ≤ 1000000 → ∃ acc' x3' x4', loopM (stv 3) pBody (vs.map D.str) [none, some (.int k), some (prsD true acc), x3, x4, none] =
    match (vs.map cl).mapM pairR with
    | some ps => .ok .nx [none, some (.int k), some (prsD true (acc ++ ps)), x3', x4', none]
    | none => .err (bt k) [none, some (.int k), some (prsD true acc'), x3', x4', none]
  | [], acc, x3, x4, _, _ => ⟨acc, x3, x4, by simp⟩
  | v :: vs, acc, x3, x4, h, hl => by
    rw [List.length_cons] at hl
    obtain ⟨y3, y4, e⟩ := pair_turn (h v List.mem_cons_self) (k := k) (acc := acc) (x4 := x4) (by omega)
    rw [List.map_cons, List.map_cons, List.mapM_cons, loopM_cons]
    have et : noX (stv 3 (D.str v)) [none, some (.int k), some (prsD true acc), x3, x4, none] = .ok () [none, some (.int k), some (prsD true acc), some (.str v), x4, none] := by simp
    rw [et, bnd_ok]
    cases q : pairR (cl v) with
    | none =>
      rw [q] at e
      exact ⟨acc, y3, y4, by rw [e]; rfl⟩
    | some p =>
      rw [q] at e
      obtain ⟨acc', z3, z4, e2⟩ := pair_loop vs (acc ++ [p]) y3 y4 (fun v hv => h v (List.mem_cons_of_mem _ hv)) (by rw [List.length_append]; simp; omega)
      refine ⟨acc', z3, z4, ?_⟩
      rw [e, bnd_ok]
      show loopM _ _ _ _ = _
      rw [e2]
      cases (vs.map cl).mapM pairR with
      | none => rfl
      | some ps =>
        show Out.ok _ [none, some (D.int k), some (prsD true (acc ++ [p] ++ ps)), z3, z4, none] = _
        rw [List.append_assoc]
        rfl
theorem mapM_lenP : ∀ {ps : List (List Nat)} {ns : List (Int × Int)}, ps.mapM pairR = some ns → ns.length = ps.length
  | [], ns, h => by cases h; rfl
  | p :: ps, ns, h => by
    rw [List.mapM_cons] at h
    cases q : pairR p with
    | none => rw [q] at h; cases h
    | some n =>
      cases q2 : ps.mapM pairR with
      | none => rw [q, q2] at h; cases h
      | some ms =>
        rw [q, q2] at h
        cases h
        rw [List.length_cons, List.length_cons, mapM_lenP q2]
theorem keys_is {k : Int} {ps : List (Int × Int)} {x3 x4 : Option D} (h : ps.length ≤ 1000000) : lcB [5] 2 (stv 5) (pure true) (ev2 (.slot 5) (.tmp (pure (.int 0))) oIx) [none, some (.int k), some (prsD true ps), x3, x4, none] =
    .ok (intsD true (ps.map (·.1))) [none, some (.int k), some (prsD true ps), x3, x4, none] := by
  have run := compM_map (vs := [5]) (tg := stv 5) (elt := ev2 (.slot 5) (.tmp (pure (.int 0))) oIx) (ρ := [none, some (.int k), none, x3, x4, none]) (fun d => match d with | .tup (a :: _) => a | _ => .non) rfl (ps.map prD) [] (fun d hd => by
    obtain ⟨p, hp, rfl⟩ := List.mem_map.mp hd
    refine ⟨[none, some (.int k), none, x3, x4, some (prD p)], [none, some (.int k), none, x3, x4, some (prD p)], by simp, rfl, ?_⟩
    have ei : oIx (prD p) (.int 0) = some (.int p.1, prD p, .int 0) := rfl
    simp [ei]) (by rw [sizeL, List.length_map]; simp; omega)
  have e0 : peek 2 [none, some (.int k), some (prsD true ps), x3, x4, none] = .ok (prsD true ps) [none, some (.int k), some (prsD true ps), x3, x4, none] := by simp
  rw [lcB_app, e0, bnd_ok]
  show (noX (compM [5] (stv 5) (pure true) (ev2 (.slot 5) (.tmp (pure (.int 0))) oIx) (fzL (ps.map prD)) []) [none, some (.int k), none, x3, x4, none]).bnd _ = _
  rw [pairs_fz, run, bnd_ok, List.nil_append, List.map_map]
  have e1 : List.map ((fun d => match d with | D.tup (a :: _) => a | _ => D.non) ∘ prD) ps = (ps.map (·.1)).map D.int := by
    rw [List.map_map]
    rfl
  rw [e1]
  rfl
theorem read_pairs_is {w : Str} (h : Fine w) (k : Int) : m_read_pairs [.str w, .int k] = match pairsR (cl w) with | some ps => .ok (prsD true ps) [.non, .non] | none => .err (bt k) := by
  have ed := dash h
  by_cases c1 : cl w = [45]
  · rw [show pairsR (cl w) = some [] from by unfold pairsR; rw [if_pos c1]]
    rw [decide_eq_true c1] at ed
    show m_read_pairs [.str w, .int k] = .ok (prsD true []) [.non, .non]
    refine def_rt (ρ' := [some (.str w), some (.int k), none, none, none, none]) ?_ (by simp [outsOf]) rfl (by simp)
    refine seq_ret ?_
    simp [Mir.envOf, ed, sizeL]
  · rw [decide_eq_false c1] at ed
    have es : oSplit (.str w) (.str (PySem.Str.ofString ",")) = some (strsD true (Txt.split w ⟨#[44]⟩), .str w, .str (PySem.Str.ofString ",")) := oSplit_ok (w := w) (c := 44) h.1
    have hlen := split_lt (c := 44) h
    obtain ⟨acc', x3, x4, el⟩ := pair_loop (k := k) (Txt.split w ⟨#[44]⟩) [] none none (fun v hv => h.part hv) (by simp; omega)
    rw [split_cl] at el
    simp only [List.nil_append] at el
    have s1 : ifM (asB (ev2 (.slot 0) (.tmp (pure (.str (PySem.Str.ofString "-")))) oEq)) (retM (lstM (pure []))) (pure .nx) (Mir.envOf 6 [.str w, .int k]) = .ok .nx [some (.str w), some (.int k), none, none, none, none] := by simp [Mir.envOf, ed]
    have s2 : asgM (lstM (pure [])) (stv 2) [some (.str w), some (.int k), none, none, none, none] = .ok .nx [some (.str w), some (.int k), some (prsD true []), none, none, none] := by simp [sizeL]
    have e0 : evM1 (mvv 0) (.tmp (pure (.str (PySem.Str.ofString ",")))) oSplit [some (.str w), some (.int k), some (prsD true []), none, none, none] = .ok (strsD true (Txt.split w ⟨#[44]⟩)) [none, some (.int k), some (prsD true []), none, none, none] := by simp [es]
    have s3 : forL (evM1 (mvv 0) (.tmp (pure (.str (PySem.Str.ofString ",")))) oSplit) (stv 3) pBody [some (.str w), some (.int k), some (prsD true []), none, none, none] = loopM (stv 3) pBody ((Txt.split w ⟨#[44]⟩).map D.str) [none, some (.int k), some (prsD true []), none, none, none] := by
      rw [forL_app, e0, bnd_ok]
      show loopM (stv 3) pBody (fzL ((Txt.split w ⟨#[44]⟩).map D.str)) _ = _
      rw [strs_fz]
    rw [el] at s3
    cases q : (spl 44 (cl w)).mapM pairR with
    | none =>
      rw [q] at s3
      rw [show pairsR (cl w) = none from by unfold pairsR; rw [if_neg c1, q]]
      show m_read_pairs [.str w, .int k] = .err (bt k)
      exact def_err (seq_step s1 (seq_step s2 (seq_err s3))) rfl (by simp)
    | some ps =>
      rw [q] at s3
      have hn : ps.length ≤ 1000000 := by
        have h1 := mapM_lenP q
        rw [← split_cl, List.length_map] at h1
        omega
      have ek := keys_is (k := k) (ps := ps) (x3 := x3) (x4 := x4) hn
      have ea := ascending_is (o := true) (ns := ps.map (·.1)) (by rw [List.length_map]; exact hn)
      have et : notT (evT (.tmp (callM m_ascending [.tmp (lcB [5] 2 (stv 5) (pure true) (ev2 (.slot 5) (.tmp (pure (.int 0))) oIx))]))) [none, some (.int k), some (prsD true ps), x3, x4, none] = .ok (!(asc (ps.map (·.1)))) [none, some (.int k), some (prsD true ps), x3, x4, none] := by
        obtain ⟨f, hf⟩ : ∃ f, f = m_ascending := ⟨_, rfl⟩
        rw [← hf] at ea ⊢
        rw [notT_app, evT_tmp, callM_app, evArgs_tmp, ek, bnd_ok, evArgs_nil, bnd_ok, bnd_ok, lendOut_tmp, lendOut_nil, bnd_ok, bnd_ok, ea]
        rfl
      cases q2 : asc (ps.map (·.1)) with
      | true =>
        rw [q2] at et
        rw [show pairsR (cl w) = some ps from by unfold pairsR; rw [if_neg c1, q]; simp [q2]]
        show m_read_pairs [.str w, .int k] = .ok (prsD true ps) [.non, .non]
        refine def_rt (seq_step s1 (seq_step s2 (seq_step s3 (seq_step (ρ1 := [none, some (.int k), some (prsD true ps), x3, x4, none]) ?_ ?_)))) (outs := [.non, .non]) (ρ' := [none, some (.int k), none, x3, x4, none]) (by simp [outsOf]) rfl (by simp)
        · rw [ifM_app, et]
          rfl
        · simp
      | false =>
        rw [q2] at et
        rw [show pairsR (cl w) = none from by unfold pairsR; rw [if_neg c1, q]; simp [q2]]
        show m_read_pairs [.str w, .int k] = .err (bt k)
        refine def_err (ρ' := [none, some (.int k), some (prsD true ps), x3, x4, none]) (seq_step s1 (seq_step s2 (seq_step s3 (seq_err ?_)))) rfl (by simp)
        rw [ifM_app, et]
        simp
end K01
end
section
set_option Elab.async false
set_option linter.all false
set_option maxRecDepth 100000
set_option maxHeartbeats 4000000
namespace K01
open PySem PySem.Spec PyProof.Rows L2 Mir MS
theorem et_bt : (et0.any fun p => p.1 == ("BadText" : Str)) = true := by decide +kernel
theorem et_btl : (et0.any fun p => p.1 == ("BadText" : Str) && p.2.contains ("line" : Str)) = true := by decide +kernel
theorem fault_is (k : Int) : m__law_fault (bt k) [.exn] = .ok (faultD k) [.non] := by
  have a1 : ans_TooMany "BadText" = false := by decide +kernel
  have a2 : ans_BadNet "BadText" = false := by decide +kernel
  have a3 : ans_BadLots "BadText" = false := by decide +kernel
  have a4 : ans_BadWant "BadText" = false := by decide +kernel
  have a5 : ans_BadOutage "BadText" = false := by decide +kernel
  have a6 : ans_BadStanding "BadText" = false := by decide +kernel
  have a7 : ans_Unsafe "BadText" = false := by decide +kernel
  have a8 : ans_BadTask "BadText" = false := by decide +kernel
  have a9 : ans_BadAsk "BadText" = false := by decide +kernel
  have a10 : ans_BadPlan "BadText" = false := by decide +kernel
  have a11 : ans_BadLook "BadText" = false := by decide +kernel
  have a12 : ans_BadCourse "BadText" = false := by decide +kernel
  have a13 : ans_BadText "BadText" = true := by decide +kernel
  have a14 : ans_BadDeed "BadText" = false := by decide +kernel
  have a15 : ans_WorksError "BadText" = true := rfl
  have ix : oIx (.lst true [faultD k]) (.int 0) = some (faultD k, .lst true [faultD k], .int 0) := rfl
  refine defX_rt (ρ' := [some .exn, some (.lst true [faultD k])]) ?_ (by simp [outsOf]) rfl rfl rfl
  unfold g__law_fault
  refine seq_step (ρ1 := [some .exn, some (.lst true [])]) (by simp [Mir.envOf, sizeL]) ?_
  refine seq_step (ρ1 := [some .exn, some (.lst true [])]) (by simp [et_bt, a1]) ?_
  refine seq_step (ρ1 := [some .exn, some (.lst true [])]) (by simp [et_bt, a2]) ?_
  refine seq_step (ρ1 := [some .exn, some (.lst true [])]) (by simp [et_bt, a3]) ?_
  refine seq_step (ρ1 := [some .exn, some (.lst true [])]) (by simp [et_bt, a4]) ?_
  refine seq_step (ρ1 := [some .exn, some (.lst true [])]) (by simp [et_bt, a5]) ?_
  refine seq_step (ρ1 := [some .exn, some (.lst true [])]) (by simp [et_bt, a6]) ?_
  refine seq_step (ρ1 := [some .exn, some (.lst true [])]) (by simp [et_bt, a7]) ?_
  refine seq_step (ρ1 := [some .exn, some (.lst true [])]) (by simp [et_bt, a8]) ?_
  refine seq_step (ρ1 := [some .exn, some (.lst true [])]) (by simp [et_bt, a9]) ?_
  refine seq_step (ρ1 := [some .exn, some (.lst true [])]) (by simp [et_bt, a10]) ?_
  refine seq_step (ρ1 := [some .exn, some (.lst true [])]) (by simp [et_bt, a11]) ?_
  refine seq_step (ρ1 := [some .exn, some (.lst true [])]) (by simp [et_bt, a12]) ?_
  refine seq_step (ρ1 := [some .exn, some (.lst true [faultD k])]) ?_ ?_
  · have el : List.lookup ("line" : Str) (([("line" : Str)] : List Str).zip [D.int k]) = some (.int k) := by simp [List.lookup]
    have e2 := et_btl
    simp only [ifM_app, evT_tmp, isxM_app, peek_def, List.getElem?_cons_zero, bnd_ok, isx_exn, et_bt, and_self, if_true, a13, tru_bl, dropM_app, appM_app, tupM_app, consM_app, pure_app, fldM_app, e2, el, List.getElem?_cons_succ, sizeL]
    simp
  refine seq_step (ρ1 := [some .exn, some (.lst true [faultD k])]) (by simp [et_bt, a14]) ?_
  simp [et_bt, a15, ix]
/-- what a reading of kind j tells -/
def resR (j : Int) (l : List Nat) : Option D := if j = 0 then (rdL l).map D.int else if j = 1 then (setR l).map (intsD true) else if j = 2 then (pairsR l).map (prsD true) else (rowR l).map (intsD true)
abbrev rdBody : M Flw := (seqM (ifM (asB (ev2 (.slot 0) (.tmp (pure (.int 0))) oEq))
    (asgM (callM m_read_number [.tmp (rdv 1), .tmp (rdv 2)]) (stv 3))
    (ifM (asB (ev2 (.slot 0) (.tmp (pure (.int 1))) oEq))
    (asgM (callM m_read_set [.tmp (rdv 1), .tmp (rdv 2)]) (stv 3))
    (ifM (asB (ev2 (.slot 0) (.tmp (pure (.int 2))) oEq))
    (asgM (callM m_read_pairs [.tmp (rdv 1), .tmp (rdv 2)]) (stv 3))
    (asgM (callM m_read_row [.tmp (rdv 1), .tmp (rdv 2)]) (stv 3)))))
    (asgM (pure .non) (stv 4)))
theorem call_ok {f : List D → FRes} {w : Str} {k : Int} {j : Int} {d : D} {x3 x4 : Option D} (e : f [.str w, .int k] = .ok d [.non, .non]) (hx : isx d = false) :
    asgM (callM f [.tmp (rdv 1), .tmp (rdv 2)]) (stv 3) [some (.int j), some (.str w), some (.int k), x3, x4, none] = .ok .nx [some (.int j), some (.str w), some (.int k), some d, x4, none] := by
  simp [e, hx]
theorem call_err {f : List D → FRes} {w : Str} {k : Int} {j : Int} {x : Exn} {x3 x4 : Option D} (e : f [.str w, .int k] = .err x) :
    asgM (callM f [.tmp (rdv 1), .tmp (rdv 2)]) (stv 3) [some (.int j), some (.str w), some (.int k), x3, x4, none] = .err x [some (.int j), some (.str w), some (.int k), x3, x4, none] := by
  simp [e]
theorem rd_try {w : Str} (h : Fine w) (j k : Int) : rdBody [some (.int j), some (.str w), some (.int k), none, none, none] = match resR j (cl w) with
    | some d => .ok .nx [some (.int j), some (.str w), some (.int k), some d, some .non, none]
    | none => .err (bt k) [some (.int j), some (.str w), some (.int k), none, none, none] := by
  have fin : ∀ {f : List D → FRes} {r : Option D}, (f [.str w, .int k] = match r with | some d => .ok d [.non, .non] | none => .err (bt k)) → (∀ d, r = some d → isx d = false) → ∀ {g : M Flw}, g [some (.int j), some (.str w), some (.int k), none, none, none] = asgM (callM f [.tmp (rdv 1), .tmp (rdv 2)]) (stv 3) [some (.int j), some (.str w), some (.int k), none, none, none] →
      seqM g (asgM (pure .non) (stv 4)) [some (.int j), some (.str w), some (.int k), none, none, none] = match r with
    | some d => .ok .nx [some (.int j), some (.str w), some (.int k), some d, some .non, none]
    | none => .err (bt k) [some (.int j), some (.str w), some (.int k), none, none, none] := by
    intro f r e hx g eg
    cases r with
    | none => exact seq_err (eg.trans (call_err e))
    | some d => exact seq_step (eg.trans (call_ok e (hx d rfl))) (by simp)
  unfold resR
  by_cases c0 : j = 0
  · rw [if_pos c0]
    refine fin (f := m_read_number) ?_ ?_ ?_
    · rw [read_number_is h]; cases rdL (cl w) <;> rfl
    · intro d e; cases q : rdL (cl w) <;> rw [q] at e <;> cases e; rfl
    · rw [ifM_app]; simp only [asB_app, ev2_st_def, peek_def, List.getElem?_cons_zero, bnd_ok, pure_app, oEq_ii, setq_def, isx_int, c0, decide_true, if_true, Bool.false_eq_true, if_false, List.set_cons_zero]
  rw [if_neg c0]
  have d0 : decide (j = 0) = false := decide_eq_false c0
  have t0 : ∀ {a b : M Flw}, ifM (asB (ev2 (.slot 0) (.tmp (pure (.int 0))) oEq)) a b [some (.int j), some (.str w), some (.int k), none, none, none] = b [some (.int j), some (.str w), some (.int k), none, none, none] := by
    intro a b; rw [ifM_app]; simp only [asB_app, ev2_st_def, peek_def, List.getElem?_cons_zero, bnd_ok, pure_app, oEq_ii, setq_def, isx_int, d0, Bool.false_eq_true, if_false, List.set_cons_zero]
  by_cases c1 : j = 1
  · rw [if_pos c1]
    refine fin (f := m_read_set) ?_ ?_ (t0.trans ?_)
    · rw [read_set_is h]; cases setR (cl w) <;> rfl
    · intro d e; cases q : setR (cl w) <;> rw [q] at e <;> cases e; rfl
    · rw [ifM_app]; simp only [asB_app, ev2_st_def, peek_def, List.getElem?_cons_zero, bnd_ok, pure_app, oEq_ii, setq_def, isx_int, c1, decide_true, if_true, Bool.false_eq_true, if_false, List.set_cons_zero]
  rw [if_neg c1]
  have d1 : decide (j = 1) = false := decide_eq_false c1
  have t1 : ∀ {a b : M Flw}, ifM (asB (ev2 (.slot 0) (.tmp (pure (.int 1))) oEq)) a b [some (.int j), some (.str w), some (.int k), none, none, none] = b [some (.int j), some (.str w), some (.int k), none, none, none] := by
    intro a b; rw [ifM_app]; simp only [asB_app, ev2_st_def, peek_def, List.getElem?_cons_zero, bnd_ok, pure_app, oEq_ii, setq_def, isx_int, d1, Bool.false_eq_true, if_false, List.set_cons_zero]
  by_cases c2 : j = 2
  · rw [if_pos c2]
    refine fin (f := m_read_pairs) ?_ ?_ (t0.trans (t1.trans ?_))
    · rw [read_pairs_is h]; cases pairsR (cl w) <;> rfl
    · intro d e; cases q : pairsR (cl w) <;> rw [q] at e <;> cases e; rfl
    · rw [ifM_app]; simp only [asB_app, ev2_st_def, peek_def, List.getElem?_cons_zero, bnd_ok, pure_app, oEq_ii, setq_def, isx_int, c2, decide_true, if_true, Bool.false_eq_true, if_false, List.set_cons_zero]
  rw [if_neg c2]
  have d2 : decide (j = 2) = false := decide_eq_false c2
  have t2 : ∀ {a b : M Flw}, ifM (asB (ev2 (.slot 0) (.tmp (pure (.int 2))) oEq)) a b [some (.int j), some (.str w), some (.int k), none, none, none] = b [some (.int j), some (.str w), some (.int k), none, none, none] := by
    intro a b; rw [ifM_app]; simp only [asB_app, ev2_st_def, peek_def, List.getElem?_cons_zero, bnd_ok, pure_app, oEq_ii, setq_def, isx_int, d2, Bool.false_eq_true, if_false, List.set_cons_zero]
  refine fin (f := m_read_row) ?_ ?_ (t0.trans (t1.trans t2))
  · rw [read_row_is h]; cases rowR (cl w) <;> rfl
  · intro d e; cases q : rowR (cl w) <;> rw [q] at e <;> cases e; rfl
theorem res_isx {j : Int} {l : List Nat} {d : D} (h : resR j l = some d) : isx d = false := by
  unfold resR at h
  split at h
  · cases q : rdL l <;> rw [q] at h <;> cases h; rfl
  · split at h
    · cases q : setR l <;> rw [q] at h <;> cases h; rfl
    · split at h
      · cases q : pairsR l <;> rw [q] at h <;> cases h; rfl
      · cases q : rowR l <;> rw [q] at h <;> cases h; rfl
theorem read_is {w : Str} (h : Fine w) (j k : Int) : m__law_a_read [.int j, .str w, .int k] = .ok (match resR j (cl w) with | some d => .tup [d, .non] | none => .tup [.non, faultD k]) [.non, .non, .non] := by
  have e := rd_try h j k
  cases q : resR j (cl w) with
  | some d =>
    have hx := res_isx q
    rw [q] at e
    refine def_rt (ρ' := [some (.int j), some (.str w), some (.int k), none, none, none]) ?_ (by simp [outsOf]) rfl (by simp)
    refine seq_step (ρ1 := [some (.int j), some (.str w), some (.int k), some d, some .non, none]) (tryM_ok e) ?_
    simp [sizeL]
  | none =>
    rw [q] at e
    refine def_rt (ρ' := [some (.int j), some (.str w), some (.int k), none, none, none]) ?_ (by simp [outsOf]) rfl (by simp)
    refine seq_step (ρ1 := [some (.int j), some (.str w), some (.int k), some .non, some (faultD k), none]) ?_ ?_
    · refine tryM_err (i := 5) (x := bt k) (ρ2 := [some (.int j), some (.str w), some (.int k), some .non, some (faultD k), some .exn]) e ?_ (by simp) ?_ (by simp [noExn])
      · unfold tbl_WorksError
        show (if (et0.any fun p => p.1 == ("BadText" : Str)) = true then some (ans_WorksError "BadText") else none) = some true
        rw [if_pos et_bt]
        rfl
      · have ef := fault_is k
        have eh : heldX (bt k) = bt k := rfl
        rw [eh]
        simp [ef]
    · simp [sizeL]
end K01
end
section
set_option Elab.async false
set_option linter.all false
set_option maxRecDepth 100000
set_option maxHeartbeats 4000000
namespace K01
open PySem PySem.Spec PyProof.Rows L2 Mir MS
theorem pick {s : D} (hs : IsS s) (many : Int) (h1 : 1 ≤ many) (h2 : many < 2 ^ 60) : ∃ (r : Int) (s' : D), IsS s' ∧ 0 ≤ r ∧ r < many ∧ isx s' = false ∧ m__law_pick [s, .int many] = .ok (.int r) [s', .non] := by
  obtain ⟨r, s', a, b, c, e⟩ := MS.pick_ok hs h1 h2
  exact ⟨r, s', a, b, c, isS_isx a, e⟩
theorem pow6 : oPow (.int 10) (.int 6) = some (.int 1000000, .int 10, .int 6) := by rfl
theorem mul10 (i : Int) : oMul (.int i) (.int 10) = some (.int (i * 10), .int i, .int 10) := oMul_ii (by simp [mulB])
theorem big_loop (m : Nat) : ∀ (lo : Int) (s : D) (n : Int) (k : Nat) (x1 x2 x4 : Option D), IsS s → 0 ≤ n → n < 10 ^ k → ∃ (n' : Int) (s' : D) (x4' : Option D), IsS s' ∧ 0 ≤ n' ∧ n' < 10 ^ (k + m) ∧ loopM (stv 4)
    (asgM (ev2 (.tmp (ev2 (.slot 3) (.tmp (pure (.int 10))) oMul)) (.tmp (callM m__law_pick [.slot 0, .tmp (pure (.int 10))])) oPlus) (stv 3)) (rangeD lo m) [some s, x1, x2, some (.int n), x4] = .ok .nx [some s', x1, x2, some (.int n'), x4'] := by
  induction m with
  | zero => exact fun lo s n k x1 x2 x4 hs h0 hn => ⟨n, s, x4, hs, h0, hn, by rw [rangeD_zero]; rfl⟩
  | succ m ih =>
    intro lo s n k x1 x2 x4 hs h0 hn
    obtain ⟨r, s1, hs1, hr0, hr, hx, e⟩ := pick hs 10 (by omega) (by omega)
    obtain ⟨n', s', x4', h1, h2, h3, h4⟩ := ih (lo + 1) s1 (n * 10 + r) (k + 1) x1 x2 (some (.int lo)) hs1 (by omega) (by rw [Int.pow_succ]; omega)
    refine ⟨n', s', x4', h1, h2, by rw [show k + (m + 1) = k + 1 + m from by omega]; exact h3, ?_⟩
    rw [rangeD_succ, loopM_cons]
    obtain ⟨f, hf⟩ : ∃ f, f = m__law_pick := ⟨_, rfl⟩
    rw [← hf] at e h4 ⊢
    simp [mul10, e, hx, h4]
theorem ipow_le {a b : Nat} (h : a ≤ b) : (10 : Int) ^ a ≤ 10 ^ b := by
  have h1 : 10 ^ a ≤ 10 ^ b := Nat.pow_le_pow_right (by omega) h
  have h2 : ((10 ^ a : Nat) : Int) ≤ ((10 ^ b : Nat) : Int) := Int.ofNat_le.mpr h1
  rw [Int.natCast_pow, Int.natCast_pow] at h2
  exact h2
theorem big {s : D} (hs : IsS s) : ∃ (n : Int) (s' : D), IsS s' ∧ 0 ≤ n ∧ n < 10 ^ 40 ∧ isx s' = false ∧ m__law_a_big [s] = .ok (.int n) [s'] := by
  have hx0 := isS_isx hs
  obtain ⟨r, s1, hs1, hr0, hr, hx1, e1⟩ := pick hs 6 (by omega) (by omega)
  have p40 : (1000000 : Int) < 10 ^ 40 := by decide
  by_cases c1 : r < 3
  · obtain ⟨n, s2, hs2, hn0, hn, hx2, e2⟩ := pick hs1 12 (by omega) (by omega)
    refine ⟨n, s2, hs2, hn0, by omega, hx2, ?_⟩
    refine def_rt (ρ' := [some s2, some (.int r), none, none, none]) ?_ (by simp [outsOf]) rfl (by simp [hx0])
    refine seq_step (ρ1 := [some s1, some (.int r), none, none, none]) (by simp [Mir.envOf, e1, hx1]) (seq_ret ?_)
    simp [c1, e2, hx2]
  by_cases c2 : r < 5
  · obtain ⟨n, s2, hs2, hn0, hn, hx2, e2⟩ := pick hs1 1000000 (by omega) (by omega)
    refine ⟨n, s2, hs2, hn0, by omega, hx2, ?_⟩
    refine def_rt (ρ' := [some s2, some (.int r), none, none, none]) ?_ (by simp [outsOf]) rfl (by simp [hx0])
    refine seq_step (ρ1 := [some s1, some (.int r), none, none, none]) (by simp [Mir.envOf, e1, hx1]) ?_
    refine seq_step (ρ1 := [some s1, some (.int r), none, none, none]) (by simp [c1]) (seq_ret ?_)
    simp [c2, pow6, e2, hx2]
  · obtain ⟨z, s2, hs2, hz0, hz, hx2, e2⟩ := pick hs1 40 (by omega) (by omega)
    obtain ⟨d, s3, hs3, hd0, hd, hx3, e3⟩ := pick hs2 9 (by omega) (by omega)
    obtain ⟨n, s4, x4, hs4, hn0, hn, e4⟩ := big_loop z.toNat 0 s3 (1 + d) 1 (some (.int r)) (some (.int (1 + z))) none hs3 (by omega) (by omega)
    have hx4 := isS_isx hs4
    refine ⟨n, s4, hs4, hn0, Int.lt_of_lt_of_le hn (ipow_le (by omega)), hx4, ?_⟩
    refine def_rt (ρ' := [some s4, some (.int r), some (.int (1 + z)), none, x4]) ?_ (by simp [outsOf]) rfl (by simp [hx0])
    refine seq_step (ρ1 := [some s1, some (.int r), none, none, none]) (by simp [Mir.envOf, e1, hx1]) ?_
    refine seq_step (ρ1 := [some s1, some (.int r), none, none, none]) (by simp [c1]) ?_
    refine seq_step (ρ1 := [some s1, some (.int r), none, none, none]) (by simp [c2]) ?_
    refine seq_step (ρ1 := [some s2, some (.int r), some (.int (1 + z)), none, none]) (by simp [e2, hx2]) ?_
    refine seq_step (ρ1 := [some s3, some (.int r), some (.int (1 + z)), some (.int (1 + d)), none]) (by simp [e3, hx3]) ?_
    refine seq_step (ρ1 := [some s4, some (.int r), some (.int (1 + z)), some (.int n), x4]) ?_ (by simp)
    have hi : Mir.inR (1 + z - 1) = true := inR_of (by omega) (by omega)
    have e0 : consM (ev2 (.slot 2) (.tmp (pure (.int 1))) oSub) (pure []) [some s3, some (.int r), some (.int (1 + z)), some (.int (1 + d)), none] = .ok [.int (1 + z - 1)] [some s3, some (.int r), some (.int (1 + z)), some (.int (1 + d)), none] := by simp
    rw [forR1_app, e0, bnd_ok]
    show (if Mir.inR (1 + z - 1) = true then _ else _) = _
    rw [if_pos hi, show (1 + z - 1).toNat = z.toNat from by omega]
    exact e4
end K01
end
section
set_option Elab.async false
set_option linter.all false
set_option maxRecDepth 100000
set_option maxHeartbeats 4000000
namespace MS
open PySem PySem.Spec PyProof.Rows L2 Mir
theorem toVL_ints (ns : List Int) : toVL (ns.map D.int) = some (ns.map V.int) := by
  induction ns with
  | nil => rfl
  | cons n ns ih =>
    rw [List.map_cons, toVL, ih]
    rfl
theorem inV_ints (f : Int) (ns : List Int) : inV (.int f) (ns.map V.int) = decide (f ∈ ns) := by
  induction ns with
  | nil => rfl
  | cons n ns ih =>
    rw [List.map_cons]
    show (eqV (.int n) (.int f) || inV (.int f) (ns.map V.int)) = _
    rw [ih]
    have e : eqV (.int n) (.int f) = decide (n = f) := rfl
    rw [e]
    by_cases h : n = f <;> by_cases h2 : f ∈ ns <;> simp [h, h2] <;> first | omega | (intro z; exact h z.symm)
theorem inInts {neg o : Bool} {f : Int} {ns : List Int} : oInV neg (.int f) (intsD o ns) = some (.bl (if neg then !decide (f ∈ ns) else decide (f ∈ ns)), .int f, intsD o ns) := by
  unfold oInV
  show (match toV (.int f), (some (ns.map D.int)).bind toVL with | some v, some vs => _ | _, _ => _) = _
  rw [Option.bind_some, toVL_ints]
  show some (D.bl (if neg then !inV (.int f) (ns.map V.int) else inV (.int f) (ns.map V.int)), _, _) = _
  rw [inV_ints]
theorem asc_srt {ns : List Int} (h : ns.Nodup) : asc (srtI ns) = true := by
  refine asc_iff.mpr ?_
  have h1 := srtI_le ns
  have h2 : (srtI ns).Nodup := (srtI_perm ns).symm.nodup h
  exact (h1.and h2).imp fun ⟨a, b⟩ => by omega
theorem numsOf_of (ns : List Int) : numsOf (ns.map .int) = some ns := by
  induction ns with
  | nil => rfl
  | cons n ns ih => simp [Mir.numsOf, ih]
theorem oSorted_ints {o : Bool} {ns : List Int} : oSorted (intsD o ns) = some (intsD true (srtI ns), intsD o ns) := by
  show (match numsOf (ns.map D.int) with | some ns => _ | none => _) = _
  rw [numsOf_of]
end MS
namespace K01
open PySem PySem.Spec PyProof.Rows L2 Mir MS
theorem rise_loop (m : Nat) : ∀ (lo : Int) (s : D) (ns : List Int) (x1 x3 x4 : Option D), IsS s → ns.Nodup → (∀ n ∈ ns, 0 ≤ n ∧ n < 10 ^ 40) → ns.length + m ≤ 1000 → ∃ (ns' : List Int) (s' : D) (x3' x4' : Option D), IsS s' ∧ ns'.Nodup ∧ (∀ n ∈ ns', 0 ≤ n ∧ n < 10 ^ 40) ∧ ns'.length ≤ ns.length + m ∧ loopM (stv 3)
    (seqM (asgM (callM m__law_a_big [.slot 0]) (stv 4))
    (ifM (asB (ev2 (.slot 4) (.slot 2) (oInV true)))
    (dropM (appM 2 (mvv 4)))
    (pure .nx))) (rangeD lo m) [some s, x1, some (intsD true ns), x3, x4] = .ok .nx [some s', x1, some (intsD true ns'), x3', x4'] := by
  induction m with
  | zero => exact fun lo s ns x1 x3 x4 hs h1 h2 h3 => ⟨ns, s, x3, x4, hs, h1, h2, by omega, by rw [rangeD_zero]; rfl⟩
  | succ m ih =>
    intro lo s ns x1 x3 x4 hs h1 h2 h3
    obtain ⟨n, s1, hs1, hn0, hn, hx, e⟩ := big hs
    have ei := inInts (neg := true) (o := true) (f := n) (ns := ns)
    by_cases c : n ∈ ns
    · obtain ⟨ns', s', y3, y4, a1, a2, a3, a4, a5⟩ := ih (lo + 1) s1 ns x1 (some (.int lo)) (some (.int n)) hs1 h1 h2 (by omega)
      refine ⟨ns', s', y3, y4, a1, a2, a3, by omega, ?_⟩
      rw [decide_eq_true c] at ei
      rw [rangeD_succ, loopM_cons]
      obtain ⟨f, hf⟩ : ∃ f, f = m__law_a_big := ⟨_, rfl⟩
      rw [← hf] at e a5 ⊢
      simp [e, hx, ei, a5]
    · have hz : ns.length < sizeLine := by rw [sizeL]; omega
      obtain ⟨ns', s', y3, y4, a1, a2, a3, a4, a5⟩ := ih (lo + 1) s1 (ns ++ [n]) x1 (some (.int lo)) none hs1 (List.nodup_append.mpr ⟨h1, by simp, fun a ha b hb z => c (by rw [List.mem_singleton] at hb; rw [← hb, ← z]; exact ha)⟩)
        (fun x hx => by
          rcases List.mem_append.mp hx with z | z
          · exact h2 x z
          · rw [List.mem_singleton] at z; rw [z]; exact ⟨hn0, hn⟩) (by rw [List.length_append]; simp; omega)
      rw [List.length_append, List.length_singleton] at a4
      refine ⟨ns', s', y3, y4, a1, a2, a3, by omega, ?_⟩
      rw [decide_eq_false c] at ei
      rw [rangeD_succ, loopM_cons]
      have em : (ns ++ [n]).map D.int = ns.map D.int ++ [.int n] := by rw [List.map_append]; rfl
      unfold intsD at a5 ei ⊢
      rw [em] at a5
      obtain ⟨f, hf⟩ : ∃ f, f = m__law_a_big := ⟨_, rfl⟩
      rw [← hf] at e a5 ⊢
      simp [e, hx, ei, hz]
      exact a5
theorem rising {s : D} (hs : IsS s) {many : Int} (h0 : 0 ≤ many) (hm : many ≤ 100) : ∃ (ns : List Int) (s' : D), IsS s' ∧ asc ns = true ∧ (∀ n ∈ ns, 0 ≤ n ∧ n < 10 ^ 40) ∧ ns.length ≤ 100 ∧ isx s' = false ∧ m__law_a_rising [s, .int many] = .ok (intsD true ns) [s', .non] := by
  have hx0 := isS_isx hs
  obtain ⟨ns, s1, x3, x4, hs1, a2, a3, a4, a5⟩ := rise_loop many.toNat 0 s [] none none none hs (by simp) (fun n hn => by cases hn) (by simp; omega)
  have hx1 := isS_isx hs1
  have hp := srtI_perm ns
  refine ⟨srtI ns, s1, hs1, asc_srt a2, fun n hn => a3 n (hp.mem_iff.mp hn), by rw [hp.length_eq]; simp at a4; omega, hx1, ?_⟩
  have hi : Mir.inR many = true := inR_of (by omega) (by omega)
  refine def_rt (ρ' := [some s1, none, some (intsD true ns), x3, x4]) ?_ (by simp [outsOf]) rfl (by simp [hx0])
  refine seq_step (ρ1 := [some s, some (.int many), some (intsD true []), none, none]) (by simp [Mir.envOf, sizeL]) ?_
  refine seq_step (ρ1 := [some s1, none, some (intsD true ns), x3, x4]) ?_ ?_
  · have e0 : consM (mvv 1) (pure []) [some s, some (.int many), some (intsD true []), none, none] = .ok [.int many] [some s, none, some (intsD true []), none, none] := by simp
    rw [forR1_app, e0, bnd_ok]
    show (if Mir.inR many = true then _ else _) = _
    rw [if_pos hi]
    exact a5
  · simp [oSorted_ints]
end K01
end
section
set_option Elab.async false
set_option linter.all false
set_option maxRecDepth 100000
set_option maxHeartbeats 4000000
namespace K01
open PySem PySem.Spec PyProof.Rows L2 Mir MS
open TL (numL numL_lt numL_step numL_digits numL_ne numL_val tl_num)
theorem cl_nn {n : Int} (h : 0 ≤ n) : cl (nt n) = numL n.toNat := by
  obtain ⟨m, rfl⟩ := Int.eq_ofNat_of_zero_le h
  exact cl_nt m
abbrev Big (n : Int) : Prop := 0 ≤ n ∧ n < 10 ^ 40
theorem toNat_lt {n : Int} (h : Big n) : n.toNat < 10 ^ 40 := by
  have : ((n.toNat : Nat) : Int) < ((10 ^ 40 : Nat) : Int) := by rw [Int.natCast_pow]; have := h.2; have := h.1; omega
  omega
theorem isNum_nt {n : Int} (h : Big n) : isNum (cl (nt n)) = true := by rw [cl_nn h.1]; exact isNum_num (toNat_lt h)
theorem val_nt {n : Int} (h : 0 ≤ n) : val (cl (nt n)) = n := by rw [cl_nn h, val_num]; omega
theorem rdL_nt {n : Int} (h : Big n) : rdL (cl (nt n)) = some n := by
  unfold rdL
  rw [isNum_nt h, if_pos rfl, val_nt h.1]
theorem dig_of {l : List Nat} (h : isNum l = true) : ∀ c ∈ l, 48 ≤ c ∧ c ≤ 57 := (isNum_iff.mp h).2.2.1
theorem dig_free {l : List Nat} (h : isNum l = true) {c : Nat} (hc : c < 48 ∨ 57 < c) : c ∉ l := fun z => by have := dig_of h c z; omega
theorem head_num {l : List Nat} (h : isNum l = true) : ∃ d r, l = d :: r ∧ 48 ≤ d ∧ d ≤ 57 := by
  cases q : l with
  | nil => exact absurd q (isNum_iff.mp h).1
  | cons d r => exact ⟨d, r, rfl, dig_of h d (by rw [q]; exact List.mem_cons_self)⟩
theorem sgL_num {l : List Nat} (h : isNum l = true) : sgL l = some (val l) := by
  obtain ⟨d, r, e, h1, h2⟩ := head_num h
  unfold sgL
  rw [if_neg (by rw [e]; simp; omega)]
  unfold rdL
  rw [if_pos h]
theorem sgL_neg {l : List Nat} (h : isNum l = true) (hv : val l ≠ 0) : sgL (45 :: l) = some (-val l) := by
  unfold sgL
  rw [if_pos (show (45 :: l).head? = some 45 from rfl)]
  show (match rdL l with | some n => _ | none => _) = _
  unfold rdL
  rw [if_pos h]
  simp only [hv, if_false]
abbrev Sig (i : Int) : Prop := -(10 ^ 40) < i ∧ i < 10 ^ 40
theorem cl_sig {i : Int} (h : i < 0) : cl (nt i) = 45 :: numL (-i).toNat := by
  have e : i = -(((-i).toNat - 1 + 1 : Nat) : Int) := by omega
  have e2 : (-i).toNat = (-i).toNat - 1 + 1 := by omega
  rw [e2]
  conv => lhs; rw [e]
  exact cl_neg _
theorem sgL_nt {i : Int} (h : Sig i) : sgL (cl (nt i)) = some i := by
  by_cases q : 0 ≤ i
  · rw [sgL_num (isNum_nt ⟨q, h.2⟩), val_nt q]
  · have hb : Big (-i) := ⟨by omega, by have := h.1; omega⟩
    rw [cl_sig (by omega), sgL_neg (isNum_num (toNat_lt hb)), val_num]
    · congr 1; omega
    · rw [val_num]; omega
theorem sig_free {i : Int} (h : Sig i) {c : Nat} (hc : 57 < c ∨ c = 44) : c ∉ cl (nt i) := by
  by_cases q : 0 ≤ i
  · exact dig_free (isNum_nt ⟨q, h.2⟩) (by omega)
  · have hb : Big (-i) := ⟨by omega, by have := h.1; omega⟩
    rw [cl_sig (by omega)]
    intro z
    rcases List.mem_cons.mp z with z | z
    · omega
    · exact dig_free (isNum_num (toNat_lt hb)) (by omega) z
theorem jl_head {c : Nat} {p : List Nat} {ps : List (List Nat)} {d : Nat} {r : List Nat} (h : p = d :: r) : ∃ r', jl c (p :: ps) = d :: r' := by
  cases ps with
  | nil => exact ⟨r, h⟩
  | cons q t => exact ⟨r ++ c :: jl c (q :: t), by show p ++ _ = _; rw [h]; rfl⟩
theorem mapM_rd : ∀ {ns : List Int}, (∀ n ∈ ns, Big n) → (ns.map fun n => cl (nt n)).mapM rdL = some ns
  | [], _ => rfl
  | n :: ns, h => by
    rw [List.map_cons, List.mapM_cons, rdL_nt (h n List.mem_cons_self), mapM_rd fun x hx => h x (List.mem_cons_of_mem _ hx)]
    rfl
theorem jl_nums {c : Nat} {n : Int} {ns : List Int} (hc : c < 48 ∨ 57 < c) (h : ∀ x ∈ n :: ns, Big x) : jl c ((n :: ns).map fun n => cl (nt n)) ≠ [45] ∧ spl c (jl c ((n :: ns).map fun n => cl (nt n))) = (n :: ns).map fun n => cl (nt n) := by
  constructor
  · obtain ⟨d, r, e, h1, h2⟩ := head_num (isNum_nt (h n List.mem_cons_self))
    obtain ⟨r', e'⟩ := jl_head (c := c) (ps := ns.map fun n => cl (nt n)) e
    rw [List.map_cons, e']
    simp
    omega
  · refine spl_jl (by simp) fun p hp => ?_
    obtain ⟨x, hx, rfl⟩ := List.mem_map.mp hp
    exact dig_free (isNum_nt (h x hx)) hc
theorem setR_right {n : Int} {ns : List Int} (h : ∀ x ∈ n :: ns, Big x) (ha : asc (n :: ns) = true) : setR (jl 44 ((n :: ns).map fun n => cl (nt n))) = some (n :: ns) := by
  obtain ⟨h1, h2⟩ := jl_nums (c := 44) (.inl (by omega)) h
  unfold setR
  rw [if_neg h1, h2, mapM_rd h]
  simp only [ha, if_true]
theorem rowR_right {n : Int} {ns : List Int} (h : ∀ x ∈ n :: ns, Big x) : rowR (jl 62 ((n :: ns).map fun n => cl (nt n))) = some (n :: ns) := by
  obtain ⟨h1, h2⟩ := jl_nums (c := 62) (.inr (by omega)) h
  unfold rowR
  rw [if_neg h1, h2, mapM_rd h]
abbrev pt (p : Int × Int) : Str := nt p.1 ++ PySem.Str.ofString ":" ++ nt p.2
theorem cl_app (a b : Str) : cl (a ++ b) = cl a ++ cl b := by simp [cl, Str.cps_append]
theorem cl_colon : cl (PySem.Str.ofString ":") = [58] := by decide +kernel
theorem cl_pt (p : Int × Int) : cl (pt p) = cl (nt p.1) ++ 58 :: cl (nt p.2) := by rw [cl_app, cl_app, cl_colon, List.append_assoc]; rfl
abbrev Pok (p : Int × Int) : Prop := Big p.1 ∧ Sig p.2
theorem pairR_pt {p : Int × Int} (h : Pok p) : pairR (cl (pt p)) = some p := by
  unfold pairR
  rw [cl_pt, spl_app (dig_free (isNum_nt h.1) (by omega)), spl_free (sig_free h.2 (by omega))]
  simp only [rdL_nt h.1, sgL_nt h.2]
theorem mapM_pr : ∀ {ps : List (Int × Int)}, (∀ p ∈ ps, Pok p) → (ps.map fun p => cl (pt p)).mapM pairR = some ps
  | [], _ => rfl
  | p :: ps, h => by
    rw [List.map_cons, List.mapM_cons, pairR_pt (h p List.mem_cons_self), mapM_pr fun x hx => h x (List.mem_cons_of_mem _ hx)]
    rfl
theorem pairsR_right {p : Int × Int} {ps : List (Int × Int)} (h : ∀ x ∈ p :: ps, Pok x) (ha : asc ((p :: ps).map (·.1)) = true) : pairsR (jl 44 ((p :: ps).map fun p => cl (pt p))) = some (p :: ps) := by
  have h1 : jl 44 ((p :: ps).map fun p => cl (pt p)) ≠ [45] := by
    obtain ⟨d, r, e, h1, h2⟩ := head_num (isNum_nt (h p List.mem_cons_self).1)
    obtain ⟨r', e'⟩ := jl_head (c := 44) (p := cl (pt p)) (d := d) (r := r ++ 58 :: cl (nt p.2)) (ps := ps.map fun p => cl (pt p)) (by rw [cl_pt, e]; rfl)
    rw [List.map_cons, e']
    simp
    omega
  have h2 : spl 44 (jl 44 ((p :: ps).map fun p => cl (pt p))) = (p :: ps).map fun p => cl (pt p) := by
    refine spl_jl (by simp) fun q hq => ?_
    obtain ⟨x, hx, rfl⟩ := List.mem_map.mp hq
    rw [cl_pt]
    intro z
    rcases List.mem_append.mp z with z | z
    · exact dig_free (isNum_nt (h x hx).1) (by omega) z
    · rcases List.mem_cons.mp z with z | z
      · omega
      · exact sig_free (h x hx).2 (by omega) z
  unfold pairsR
  rw [if_neg h1, h2, mapM_pr h]
  simp only [ha, if_true]
/-- signs of numbers are plain, their texts short -/
theorem nt_small {i : Int} (h : Sig i) : (nt i).length ≤ 41 ∧ ∀ c ∈ cl (nt i), c < 128 := by
  by_cases q : 0 ≤ i
  · have hn := isNum_nt (n := i) ⟨q, h.2⟩
    refine ⟨?_, fun c hc => by have := dig_of hn c hc; omega⟩
    have := (isNum_iff.mp hn).2.1
    rw [cl_len] at this
    omega
  · have hb : Big (-i) := ⟨by omega, by have := h.1; omega⟩
    have hn := isNum_num (toNat_lt hb)
    have e := cl_sig (i := i) (by omega)
    refine ⟨?_, fun c hc => ?_⟩
    · have := (isNum_iff.mp hn).2.1
      rw [← cl_len, e, List.length_cons]
      omega
    · rw [e] at hc
      rcases List.mem_cons.mp hc with z | z
      · omega
      · have := dig_of hn c z; omega
theorem Big.sig {n : Int} (h : Big n) : Sig n := ⟨by
  have h1 := h.1
  have h2 : (0 : Int) < 10 ^ 40 := by decide
  omega, h.2⟩
end K01
end
section
set_option Elab.async false
set_option linter.all false
set_option maxRecDepth 100000
set_option maxHeartbeats 4000000
namespace K01
open PySem PySem.Spec PyProof.Rows L2 Mir MS
open TL (numL numL_lt numL_step numL_digits numL_ne numL_val tl_num)
theorem oStr_ok {i : Int} (h : Sig i) : oStr (.int i) = some (.str (nt i), .int i) := by
  have h1 : i.natAbs < 2 ^ 1920 := by
    have h2 : (10 : Int) ^ 40 ≤ ((2 ^ 1920 : Nat) : Int) := by
      have : (10 ^ 40 : Nat) ≤ 2 ^ 1920 := by decide +kernel
      have h3 : ((10 ^ 40 : Nat) : Int) ≤ ((2 ^ 1920 : Nat) : Int) := Int.ofNat_le.mpr this
      rw [Int.natCast_pow] at h3
      exact h3
    have := h.1
    have := h.2
    generalize (2 ^ 1920 : Nat) = z at h2 ⊢
    omega
  have h4 : i.natAbs.log2 < 1920 := by
    by_cases q : i.natAbs = 0
    · rw [q]; decide
    · exact (Nat.log2_lt q).mpr h1
  show (if i.natAbs.log2 < 1920 then _ else _) = _
  rw [if_pos h4]
theorem sum_lens {ws : List Str} {B : Nat} (h : ∀ w ∈ ws, w.length ≤ B) : (ws.map (·.length)).sum ≤ ws.length * B := by
  induction ws with
  | nil => simp
  | cons w ws ih =>
    rw [List.map_cons, List.sum_cons, List.length_cons]
    have h1 := ih fun x hx => h x (List.mem_cons_of_mem _ hx)
    have h2 := h w List.mem_cons_self
    rw [Nat.add_mul]
    omega
/-- what stands for a list of texts -/
def lineW (sep : Str) (ws : List Str) : Str := if ws = [] then PySem.Str.ofString "-" else Txt.join sep ws
theorem cl_line {c : Nat} {ws : List Str} : cl (lineW ⟨#[c]⟩ ws) = if ws = [] then [45] else jl c (ws.map cl) := by
  unfold lineW
  split
  · decide +kernel
  · show cl (Builtin.Str.glued _ _) = _
    rw [StrLaws.glued_eq_join, join_cl]
theorem jl_len {c : Nat} {B : Nat} : ∀ {ps : List (List Nat)}, (∀ p ∈ ps, p.length ≤ B) → (jl c ps).length ≤ ps.length * (B + 1)
  | [], _ => by simp [jl]
  | [p], h => by have := h p List.mem_cons_self; simp [jl]; omega
  | p :: q :: r, h => by
    have h1 := h p List.mem_cons_self
    have h2 := jl_len (c := c) (ps := q :: r) fun x hx => h x (List.mem_cons_of_mem _ hx)
    show (p ++ c :: jl c (q :: r)).length ≤ _
    rw [List.length_append, List.length_cons, List.length_cons, Nat.add_mul, Nat.one_mul]
    omega
theorem line_fine {c : Nat} (hc : c < 128) {ws : List Str} (hn : ws.length ≤ 100) (h : ∀ w ∈ ws, w.length ≤ 90 ∧ ∀ c ∈ cl w, c < 128) : Fine (lineW ⟨#[c]⟩ ws) := by
  by_cases q : ws = []
  · refine ⟨?_, fun d hd => ?_⟩
    · rw [← cl_len, cl_line, if_pos q]; simp
    · rw [cl_line, if_pos q] at hd; simp at hd; omega
  · refine ⟨?_, fun d hd => ?_⟩
    · rw [← cl_len, cl_line, if_neg q]
      have := jl_len (c := c) (B := 90) (ps := ws.map cl) fun p hp => by
        obtain ⟨w, hw, rfl⟩ := List.mem_map.mp hp
        rw [cl_len]
        exact (h w hw).1
      rw [List.length_map] at this
      have : ws.length * 91 ≤ 100 * 91 := Nat.mul_le_mul_right _ hn
      omega
    · rw [cl_line, if_neg q] at hd
      rcases mem_jl hd with z | ⟨p, hp, z⟩
      · omega
      · obtain ⟨w, hw, rfl⟩ := List.mem_map.mp hp
        exact (h w hw).2 d z
theorem join_ok {c : Nat} {o : Bool} {ws : List Str} (hn : ws.length ≤ 100) (h : ∀ w ∈ ws, w.length ≤ 90) : oJoin (.str ⟨#[c]⟩) (strsD o ws) = some (.str (Txt.join ⟨#[c]⟩ ws), .str ⟨#[c]⟩, strsD o ws) := by
  refine oJoin_ok ?_
  have h1 := sum_lens h
  have h2 : ws.length * 90 ≤ 100 * 90 := Nat.mul_le_mul_right _ hn
  have : (⟨#[c]⟩ : Str).length = 1 := rfl
  rw [this]
  omega
theorem line_made {c : Nat} {s : D} {j : Int} {x2 x5 x6 x7 x8 : Option D} {ns : List Int} (hn : ns.length ≤ 100) (h : ∀ n ∈ ns, Big n) :
    ifV (evT (.slot 3)) (evM1 (pure (.str ⟨#[c]⟩)) (.tmp (lcL [4] (rdv 3) (stv 4) (pure true) (ev1 (.slot 4) oStr))) oJoin) (pure (.str (PySem.Str.ofString "-")))
      [some s, some (.int j), x2, some (intsD false ns), none, x5, x6, x7, x8] = .ok (.str (lineW ⟨#[c]⟩ (ns.map nt))) [some s, some (.int j), x2, some (intsD false ns), none, x5, x6, x7, x8] := by
  have et : tru (intsD false ns) = some (!ns.isEmpty) := by
    show some (!(ns.map D.int).isEmpty) = _
    cases ns <;> rfl
  rw [ifV_app, evT_def]
  simp only [peek_def, List.getElem?_cons_zero, List.getElem?_cons_succ, bnd_ok, et]
  by_cases q : ns = []
  · subst q
    rfl
  · have e1 : (!ns.isEmpty) = true := by cases ns <;> first | rfl | exact absurd rfl q
    rw [e1, if_pos rfl, evM1_pt]
    have run := compM_map (vs := [4]) (tg := stv 4) (elt := ev1 (.slot 4) oStr) (ρ := [some s, some (.int j), x2, some (intsD false ns), none, x5, x6, x7, x8]) (fun d => match d with | .int i => .str (nt i) | _ => .non) rfl (ns.map D.int) [] (fun d hd => by
      obtain ⟨n, hm, rfl⟩ := List.mem_map.mp hd
      have e := oStr_ok (h n hm).sig
      refine ⟨[some s, some (.int j), x2, some (intsD false ns), some (.int n), x5, x6, x7, x8], [some s, some (.int j), x2, some (intsD false ns), some (.int n), x5, x6, x7, x8], by simp, rfl, ?_⟩
      simp [e]) (by rw [sizeL, List.length_map]; simp; omega)
    have e0 : rdv 3 [some s, some (.int j), x2, some (intsD false ns), none, x5, x6, x7, x8] = .ok (intsD false ns) [some s, some (.int j), x2, some (intsD false ns), none, x5, x6, x7, x8] := by
      simp [fzL_ints]
    have el : lcL [4] (rdv 3) (stv 4) (pure true) (ev1 (.slot 4) oStr) [some s, some (.int j), x2, some (intsD false ns), none, x5, x6, x7, x8] = .ok (strsD true (ns.map nt)) [some s, some (.int j), x2, some (intsD false ns), none, x5, x6, x7, x8] := by
      rw [lcL_app, e0, bnd_ok]
      show (noX (compM [4] (stv 4) (pure true) (ev1 (.slot 4) oStr) (fzL (ns.map D.int)) []) [some s, some (.int j), x2, some (intsD false ns), none, x5, x6, x7, x8]).bnd _ = _
      rw [fzL_ints, run, bnd_ok, List.nil_append, List.map_map]
      unfold strsD
      rw [List.map_map]
      rfl
    have ej := join_ok (c := c) (o := true) (ws := ns.map nt) (by rw [List.length_map]; exact hn) (fun w hw => by
      obtain ⟨n, hm, rfl⟩ := List.mem_map.mp hw
      have := (nt_small (h n hm).sig).1
      omega)
    rw [el, bnd_ok, ej]
    unfold lineW
    rw [if_neg (by simpa using q)]
end K01
end
section
set_option Elab.async false
set_option linter.all false
set_option maxRecDepth 100000
set_option maxHeartbeats 4000000
namespace K01
open PySem PySem.Spec PyProof.Rows L2 Mir MS
theorem same_eq : ∀ n, m__law_same n = MS.m__law_same n
  | 0 => rfl
  | n + 1 => by
    show defF 4 [true, true] (b__law_same (m__law_same n)) = defF 4 [true, true] (MS.b__law_same (MS.m__law_same n))
    rw [same_eq n]
    rfl
theorem same_ints {o o' : Bool} {ns : List Int} (h : ns.length ≤ 1000000) : m__law_same 3 [intsD o ns, intsD o' ns] = .ok (.bl true) [intsD o ns, intsD o' ns] := by
  rw [same_eq]
  refine MS.same_lst rfl (by rw [List.length_map]; exact h) fun k x y hx hy => ?_
  rw [hx] at hy
  cases hy
  obtain ⟨n, _, rfl⟩ := List.mem_map.mp (List.mem_of_getElem? hx)
  exact MS.same_int
theorem same_prs {o o' : Bool} {ps : List (Int × Int)} (h : ps.length ≤ 1000000) : m__law_same 3 [prsD o ps, prsD o' ps] = .ok (.bl true) [prsD o ps, prsD o' ps] := by
  rw [same_eq]
  refine MS.same_lst rfl (by rw [List.length_map]; exact h) fun k x y hx hy => ?_
  rw [hx] at hy
  cases hy
  obtain ⟨n, _, rfl⟩ := List.mem_map.mp (List.mem_of_getElem? hx)
  refine MS.same_tup rfl (by simp) fun i x y hx hy => ?_
  match i with
  | 0 => cases hx; cases hy; exact MS.same_int
  | 1 => cases hx; cases hy; exact MS.same_int
  | i + 2 => simp at hx
theorem same_i {i : Int} : m__law_same 3 [.int i, .int i] = .ok (.bl true) [.int i, .int i] := by
  rw [same_eq]
  exact MS.same_int
theorem same_fault {k : Int} : m__law_same 3 [faultD k, faultD k] = .ok (.bl true) [faultD k, faultD k] := by
  rw [same_eq]
  refine MS.same_tup rfl (by simp) fun i x y hx hy => ?_
  match i with
  | 0 => cases hx; cases hy; exact MS.same_str (by decide +kernel)
  | 1 => cases hx; cases hy; exact MS.same_int
  | i + 2 => simp at hx
/-- what is told of a right word -/
structure RightOk (j : Int) (due : D) (w : Str) : Prop where
  fine : Fine w
  nx : isx due = false
  res : ∃ d, resR j (cl w) = some d ∧ isx d = false ∧ m__law_same 3 [d, due] = .ok (.bl true) [d, due] ∧ (j ≠ 0 → ∃ xs, d = .lst true xs ∧ xs.length ≤ 1000)
theorem tup_ret {f g : M D} {ρ ρ1 ρ2 : Mir.Env} {a b : D} (h1 : f ρ = .ok a ρ1) (h2 : g ρ1 = .ok b ρ2) : retM (tupM (consM f (consM g (pure [])))) ρ = .ok (.rt (.tup [a, b])) ρ2 := by
  rw [retM_app, tupM_app, consM_app, h1, bnd_ok, consM_app, h2]
  simp [sizeL]
theorem bigs_fine {c : Nat} (hc : c < 128) {ns : List Int} (hn : ns.length ≤ 100) (h : ∀ n ∈ ns, Big n) : Fine (lineW ⟨#[c]⟩ (ns.map nt)) :=
  line_fine hc (by rw [List.length_map]; exact hn) fun w hw => by
    obtain ⟨n, hm, rfl⟩ := List.mem_map.mp hw
    have := nt_small (h n hm).sig
    exact ⟨by omega, this.2⟩
theorem line_num {c : Nat} {ns : List Int} : cl (lineW ⟨#[c]⟩ (ns.map nt)) = if ns = [] then [45] else jl c (ns.map fun n => cl (nt n)) := by
  rw [cl_line, List.map_map]
  by_cases q : ns = []
  · subst q; rfl
  · rw [if_neg (by simpa using q), if_neg q]
    rfl
theorem right0 {s : D} (hs : IsS s) : ∃ due w s', RightOk 0 due w ∧ IsS s' ∧ m__law_a_right [s, .int 0] = .ok (.tup [due, .str w]) [s', .non] := by
  have hx0 := isS_isx hs
  obtain ⟨r, s1, hs1, hr0, hr, hx1, e1⟩ := pick hs 9 (by omega) (by omega)
  obtain ⟨n, s2, hs2, hn0, hn, hx2, e2⟩ := big hs1
  have hb : Big n := ⟨hn0, hn⟩
  have sm := nt_small hb.sig
  refine ⟨.int n, nt n, s2, ⟨⟨by omega, sm.2⟩, rfl, .int n, ?_, rfl, same_i, fun z => absurd rfl z⟩, hs2, ?_⟩
  · unfold resR
    rw [if_pos rfl, rdL_nt hb]
    rfl
  · have eo := oStr_ok hb.sig
    refine def_rt (ρ' := [some s2, some (.int 0), some (.int r), some (.int n), none, none, none, none, none]) ?_ (by simp [outsOf]) rfl (by simp [hx0])
    refine seq_step (ρ1 := [some s1, some (.int 0), some (.int r), none, none, none, none, none, none]) (by simp [Mir.envOf, e1, hx1]) (seq_ret ?_)
    simp [e2, hx2, eo, sizeL]
theorem right1 {s : D} (hs : IsS s) : ∃ due w s', RightOk 1 due w ∧ IsS s' ∧ m__law_a_right [s, .int 1] = .ok (.tup [due, .str w]) [s', .non] := by
  have hx0 := isS_isx hs
  obtain ⟨r, s1, hs1, hr0, hr, hx1, e1⟩ := pick hs 9 (by omega) (by omega)
  obtain ⟨ns, s2, hs2, ha, hb, hl, hx2, e2⟩ := rising hs1 (many := r) hr0 (by omega)
  refine ⟨intsD false ns, lineW ⟨#[44]⟩ (ns.map nt), s2, ⟨bigs_fine (by omega) hl hb, rfl, intsD true ns, ?_, rfl, same_ints (by omega), fun _ => ⟨_, rfl, by rw [List.length_map]; omega⟩⟩, hs2, ?_⟩
  · unfold resR
    rw [if_neg (by decide), if_pos rfl, line_num]
    cases ns with
    | nil => rfl
    | cons n ns => rw [if_neg (by simp), setR_right hb ha]; rfl
  · have em := line_made (c := 44) (s := s2) (j := 1) (x2 := none) (x5 := none) (x6 := none) (x7 := none) (x8 := none) hl hb
    refine def_rt (ρ' := [some s2, some (.int 1), none, some (intsD false ns), none, none, none, none, none]) ?_ (by simp [outsOf]) rfl (by simp [hx0])
    refine seq_step (ρ1 := [some s1, some (.int 1), some (.int r), none, none, none, none, none, none]) (by simp [Mir.envOf, e1, hx1]) ?_
    refine seq_step (ρ1 := [some s1, some (.int 1), some (.int r), none, none, none, none, none, none]) (by simp) (seq_ret ?_)
    rw [ifM_app]
    simp only [asB_app, ev2_st_def, peek_def, List.getElem?_cons_zero, List.getElem?_cons_succ, bnd_ok, pure_app, oEq_ii, setq_def, isx_int, decide_true, if_true, Bool.false_eq_true, if_false, List.set_cons_zero, List.set_cons_succ]
    refine seq_step (ρ1 := [some s2, some (.int 1), none, some (intsD true ns), none, none, none, none, none]) ?_ (tup_ret (ρ1 := [some s2, some (.int 1), none, some (intsD false ns), none, none, none, none, none]) ?_ em)
    · obtain ⟨f, hf⟩ : ∃ f, f = m__law_a_rising := ⟨_, rfl⟩
      rw [← hf] at e2 ⊢
      simp [e2, hx2]
    · simp [fzL_ints]
theorem bigs_made (m : Nat) : ∀ (lo : Int) (s : D) (acc : List Int) (x2 : Option D), IsS s → (∀ n ∈ acc, Big n) → acc.length + m ≤ 100 → ∃ (ns : List Int) (s' : D), IsS s' ∧ (∀ n ∈ ns, Big n) ∧ ns.length ≤ 100 ∧
    noX (compM [8] (stv 8) (pure true) (callM m__law_a_big [.slot 0]) (rangeD lo m) (acc.map D.int)) [some s, some (.int 3), x2, none, none, none, none, none, none] = .ok (ns.map D.int) [some s', some (.int 3), x2, none, none, none, none, none, none] := by
  induction m with
  | zero => exact fun lo s acc x2 hs h1 h2 => ⟨acc, s, hs, h1, by omega, rfl⟩
  | succ m ih =>
    intro lo s acc x2 hs h1 h2
    obtain ⟨n, s1, hs1, hn0, hn, hx1, e1⟩ := big hs
    obtain ⟨ns, s', a1, a2, a3, a4⟩ := ih (lo + 1) s1 (acc ++ [n]) x2 hs1 (fun x hx => by
      rcases List.mem_append.mp hx with z | z
      · exact h1 x z
      · rw [List.mem_singleton] at z; rw [z]; exact ⟨hn0, hn⟩) (by rw [List.length_append]; simp; omega)
    refine ⟨ns, s', a1, a2, a3, ?_⟩
    have hz : (acc.map D.int).length < sizeLine := by rw [sizeL, List.length_map]; omega
    have e2 : (acc ++ [n]).map D.int = acc.map D.int ++ [.int n] := by rw [List.map_append]; rfl
    rw [e2] at a4
    rw [rangeD_succ]
    rw [noX_app] at a4 ⊢
    obtain ⟨f, hf⟩ : ∃ f, f = m__law_a_big := ⟨_, rfl⟩
    rw [← hf] at e1 a4 ⊢
    rw [compM, bind_app, noX_ok (a := ()) (ρ' := [some s, some (.int 3), x2, none, none, none, none, none, some (.int lo)]) (by simp), bnd_ok, bind_app, noX_ok (f := (pure true : M Bool)) (a := true) rfl, bnd_ok, if_pos rfl, bind_app,
      noX_ok (a := .int n) (ρ' := [some s1, some (.int 3), x2, none, none, none, none, none, some (.int lo)]) (by simp [e1, hx1]), bnd_ok, if_pos hz, bind_app]
    exact a4
theorem right3 {s : D} (hs : IsS s) : ∃ due w s', RightOk 3 due w ∧ IsS s' ∧ m__law_a_right [s, .int 3] = .ok (.tup [due, .str w]) [s', .non] := by
  have hx0 := isS_isx hs
  obtain ⟨r, s1, hs1, hr0, hr, hx1, e1⟩ := pick hs 9 (by omega) (by omega)
  obtain ⟨ns, s2, hs2, hb, hl, e2⟩ := bigs_made r.toNat 0 s1 [] none hs1 (fun n hn => by cases hn) (by simp; omega)
  refine ⟨intsD false ns, lineW ⟨#[62]⟩ (ns.map nt), s2, ⟨bigs_fine (by omega) hl hb, rfl, intsD true ns, ?_, rfl, same_ints (by omega), fun _ => ⟨_, rfl, by rw [List.length_map]; omega⟩⟩, hs2, ?_⟩
  · unfold resR
    rw [if_neg (by decide), if_neg (by decide), if_neg (by decide), line_num]
    cases ns with
    | nil => rfl
    | cons n ns => rw [if_neg (by simp), rowR_right hb]; rfl
  · have em := line_made (c := 62) (s := s2) (j := 3) (x2 := none) (x5 := none) (x6 := none) (x7 := none) (x8 := none) hl hb
    have hi : Mir.inR r = true := inR_of (by omega) (by omega)
    refine def_rt (ρ' := [some s2, some (.int 3), none, some (intsD false ns), none, none, none, none, none]) ?_ (by simp [outsOf]) rfl (by simp [hx0])
    refine seq_step (ρ1 := [some s1, some (.int 3), some (.int r), none, none, none, none, none, none]) (by simp [Mir.envOf, e1, hx1]) ?_
    refine seq_step (ρ1 := [some s1, some (.int 3), some (.int r), none, none, none, none, none, none]) (by simp) ?_
    refine seq_step (ρ1 := [some s1, some (.int 3), some (.int r), none, none, none, none, none, none]) (by simp) ?_
    refine seq_step (ρ1 := [some s1, some (.int 3), some (.int r), none, none, none, none, none, none]) (by simp) ?_
    refine seq_step (ρ1 := [some s2, some (.int 3), none, some (intsD true ns), none, none, none, none, none]) ?_ (tup_ret (ρ1 := [some s2, some (.int 3), none, some (intsD false ns), none, none, none, none, none]) ?_ em)
    · have e0 : consM (mvv 2) (pure []) [some s1, some (.int 3), some (.int r), none, none, none, none, none, none] = .ok [.int r] [some s1, some (.int 3), none, none, none, none, none, none, none] := by simp
      refine asg_ok (i := 3) (ρ1 := [some s2, some (.int 3), none, none, none, none, none, none, none]) ?_ (by simp) rfl
      rw [lcR1_app, e0, bnd_ok]
      show (if Mir.inR r = true then lcR [8] 0 r.toNat (stv 8) (pure true) (callM m__law_a_big [.slot 0]) [some s1, some (.int 3), none, none, none, none, none, none, none] else _) = _
      rw [if_pos hi, lcR_app]
      show (noX (compM [8] (stv 8) (pure true) (callM m__law_a_big [.slot 0]) (rangeD 0 r.toNat) ([] : List D)) [some s1, some (.int 3), none, none, none, none, none, none, none]).bnd _ = _
      rw [show ([] : List D) = ([] : List Int).map D.int from rfl, e2]
      rfl
    · simp [fzL_ints]
end K01
end
section
set_option Elab.async false
set_option linter.all false
set_option maxRecDepth 100000
set_option maxHeartbeats 4000000
namespace K01
open PySem PySem.Spec PyProof.Rows L2 Mir MS
abbrev prBody : M Flw := (seqM (asgM (callM m__law_a_big [.slot 0]) (stv 5))
    (dropM (appM 3 (tupM (consM (mvv 4) (consM (ifV (evT (.tmp (callM m__law_pick [.slot 0, .tmp (pure (.int 2))]))) (ev1 (.slot 5) oNeg) (rdv 5)) (pure [])))))))
theorem pr_loop (ns : List Int) : ∀ (s : D) (acc : List (Int × Int)) (x2 x4 x5 : Option D), IsS s → (∀ n ∈ ns, Big n) → (∀ p ∈ acc, Pok p) → acc.length + ns.length ≤ 1000 → ∃ (ps : List (Int × Int)) (s' : D) (x4' x5' : Option D), IsS s' ∧ (∀ p ∈ ps, Pok p) ∧ ps.map (·.1) = acc.map (·.1) ++ ns ∧
    loopM (stv 4) prBody (ns.map D.int) [some s, some (.int 2), x2, some (prsD true acc), x4, x5, none, none, none] = .ok .nx [some s', some (.int 2), x2, some (prsD true ps), x4', x5', none, none, none] := by
  induction ns with
  | nil => exact fun s acc x2 x4 x5 hs h1 h2 h3 => ⟨acc, s, x4, x5, hs, h2, by simp, rfl⟩
  | cons n ns ih =>
    intro s acc x2 x4 x5 hs h1 h2 h3
    rw [List.length_cons] at h3
    obtain ⟨z, s1, hs1, hz0, hz, hx1, e1⟩ := big hs
    obtain ⟨b, s2, hs2, hb0, hb, hx2, e2⟩ := pick hs1 2 (by omega) (by omega)
    have hsz : acc.length < sizeLine := by rw [sizeL]; omega
    have hs2' : (2 : Nat) ≤ sizeLine := by rw [sizeL]; omega
    have key : ∃ v, Sig v ∧ prBody [some s, some (.int 2), x2, some (prsD true acc), some (.int n), x5, none, none, none] = .ok .nx [some s2, some (.int 2), x2, some (prsD true (acc ++ [(n, v)])), none, some (.int z), none, none, none] := by
      obtain ⟨f, hf⟩ : ∃ f, f = m__law_a_big := ⟨_, rfl⟩
      obtain ⟨g, hg⟩ : ∃ g, g = m__law_pick := ⟨_, rfl⟩
      rw [← hf] at e1
      rw [← hg] at e2
      by_cases c : b = 0
      · refine ⟨z, ⟨by omega, hz⟩, ?_⟩
        rw [c] at e2
        unfold prBody
        rw [← hf, ← hg]
        refine seq_step (ρ1 := [some s1, some (.int 2), x2, some (prsD true acc), some (.int n), some (.int z), none, none, none]) (by simp [e1, hx1]) ?_
        simp [e2, hx2, hsz, hs2']
      · refine ⟨-z, ⟨by omega, by omega⟩, ?_⟩
        have c' : (b != 0) = true := by simp [c]
        unfold prBody
        rw [← hf, ← hg]
        refine seq_step (ρ1 := [some s1, some (.int 2), x2, some (prsD true acc), some (.int n), some (.int z), none, none, none]) (by simp [e1, hx1]) ?_
        simp [e2, hx2, hsz, hs2', c]
    obtain ⟨v, hv, ek⟩ := key
    obtain ⟨ps, s', y4, y5, a1, a2, a3, a4⟩ := ih s2 (acc ++ [(n, v)]) x2 none (some (.int z)) hs2 (fun x hx => h1 x (List.mem_cons_of_mem _ hx)) (fun p hp => by
      rcases List.mem_append.mp hp with q | q
      · exact h2 p q
      · rw [List.mem_singleton] at q; rw [q]; exact ⟨h1 n List.mem_cons_self, hv⟩) (by rw [List.length_append]; simp; omega)
    refine ⟨ps, s', y4, y5, a1, a2, by rw [a3]; simp, ?_⟩
    rw [List.map_cons, loopM_cons]
    have et : noX (stv 4 (D.int n)) [some s, some (.int 2), x2, some (prsD true acc), x4, x5, none, none, none] = .ok () [some s, some (.int 2), x2, some (prsD true acc), some (.int n), x5, none, none, none] := by simp
    rw [et, bnd_ok, ek]
    exact a4
theorem pt_small {p : Int × Int} (h : Pok p) : (pt p).length ≤ 83 ∧ ∀ c ∈ cl (pt p), c < 128 := by
  have h1 := nt_small h.1.sig
  have h2 := nt_small h.2
  refine ⟨?_, fun c hc => ?_⟩
  · rw [← cl_len, cl_pt, List.length_append, List.length_cons, cl_len, cl_len]; omega
  · rw [cl_pt] at hc
    rcases List.mem_append.mp hc with z | z
    · exact h1.2 c z
    · rcases List.mem_cons.mp z with z | z
      · omega
      · exact h2.2 c z
theorem colon_len : (PySem.Str.ofString ":").length = 1 := by decide +kernel
theorem len_app (a b : Str) : (a ++ b).length = a.length + b.length := by rw [← cl_len, cl_app, List.length_append, cl_len, cl_len]
theorem pline_made {s : D} {x2 x4 x5 x8 : Option D} {ps : List (Int × Int)} (hn : ps.length ≤ 100) (h : ∀ p ∈ ps, Pok p) :
    ifV (evT (.slot 3)) (evM1 (pure (.str (PySem.Str.ofString ","))) (.tmp (lcL [6, 7] (rdv 3) (fun d => match d with | .tup ds => (if ds.length = 2 then (fun ds => match ds with | d :: r => (do (stv 6) d; (fun ds => match ds with | d :: r => (do (stv 7) d; (fun ds => match ds with | [] => pure () | _ => badM) r) | [] => badM) r) | [] => badM) ds else badM) | _ => badM) (pure true) (ev2 (.tmp (ev2 (.tmp (ev1 (.slot 6) oStr)) (.tmp (pure (.str (PySem.Str.ofString ":")))) oPlus)) (.tmp (ev1 (.slot 7) oStr)) oPlus))) oJoin) (pure (.str (PySem.Str.ofString "-")))
      [some s, some (.int 2), x2, some (prsD false ps), x4, x5, none, none, x8] = .ok (.str (lineW ⟨#[44]⟩ (ps.map pt))) [some s, some (.int 2), x2, some (prsD false ps), x4, x5, none, none, x8] := by
  have et : tru (prsD false ps) = some (!ps.isEmpty) := by
    show some (!(ps.map prD).isEmpty) = _
    cases ps <;> rfl
  rw [ifV_app, evT_def]
  simp only [peek_def, List.getElem?_cons_zero, List.getElem?_cons_succ, bnd_ok, et]
  by_cases q : ps = []
  · subst q
    rfl
  · have e1 : (!ps.isEmpty) = true := by cases ps <;> first | rfl | exact absurd rfl q
    rw [e1, if_pos rfl, evM1_pt]
    have run := compM_map (vs := [6, 7]) (tg := (fun d => match d with | .tup ds => (if ds.length = 2 then (fun ds => match ds with | d :: r => (do (stv 6) d; (fun ds => match ds with | d :: r => (do (stv 7) d; (fun ds => match ds with | [] => pure () | _ => badM) r) | [] => badM) r) | [] => badM) ds else badM) | _ => badM))
      (elt := ev2 (.tmp (ev2 (.tmp (ev1 (.slot 6) oStr)) (.tmp (pure (.str (PySem.Str.ofString ":")))) oPlus)) (.tmp (ev1 (.slot 7) oStr)) oPlus) (ρ := [some s, some (.int 2), x2, some (prsD false ps), x4, x5, none, none, x8])
      (fun d => match d with | .tup [.int i, .int j] => .str (pt (i, j)) | _ => .non) rfl (ps.map prD) [] (fun d hd => by
      obtain ⟨p, hm, rfl⟩ := List.mem_map.mp hd
      have hp := h p hm
      have o1 := oStr_ok hp.1.sig
      have o2 := oStr_ok hp.2
      have l1 := (nt_small hp.1.sig).1
      have l2 := (nt_small hp.2).1
      have p1 : oPlus (.str (nt p.1)) (.str (PySem.Str.ofString ":")) = some (.str (nt p.1 ++ PySem.Str.ofString ":"), .str (nt p.1), .str (PySem.Str.ofString ":")) := oPlus_ss (by rw [colon_len, sizeL]; omega)
      have p2 : oPlus (.str (nt p.1 ++ PySem.Str.ofString ":")) (.str (nt p.2)) = some (.str (nt p.1 ++ PySem.Str.ofString ":" ++ nt p.2), .str (nt p.1 ++ PySem.Str.ofString ":"), .str (nt p.2)) := oPlus_ss (by rw [len_app, colon_len, sizeL]; omega)
      refine ⟨[some s, some (.int 2), x2, some (prsD false ps), x4, x5, some (.int p.1), some (.int p.2), x8], [some s, some (.int 2), x2, some (prsD false ps), x4, x5, some (.int p.1), some (.int p.2), x8], by simp, rfl, ?_⟩
      simp [o1, o2, p1, p2]) (by rw [sizeL, List.length_map]; simp; omega)
    have e0 : rdv 3 [some s, some (.int 2), x2, some (prsD false ps), x4, x5, none, none, x8] = .ok (prsD false ps) [some s, some (.int 2), x2, some (prsD false ps), x4, x5, none, none, x8] := by
      simp [pairs_fz]
    have ej := join_ok (c := 44) (o := true) (ws := ps.map pt) (by rw [List.length_map]; exact hn) (fun w hw => by
      obtain ⟨p, hm, rfl⟩ := List.mem_map.mp hw
      have := (pt_small (h p hm)).1
      omega)
    rw [lcL_app, e0, bnd_ok]
    show Out.bnd ((noX (compM _ _ _ _ (fzL (ps.map prD)) []) [some s, some (.int 2), x2, some (prsD false ps), x4, x5, none, none, x8]).bnd _) _ = _
    rw [pairs_fz, run, bnd_ok, List.nil_append, List.map_map, bnd_ok]
    have em : List.map ((fun d => match d with | D.tup [.int i, .int j] => D.str (pt (i, j)) | _ => D.non) ∘ prD) ps = (ps.map pt).map D.str := by
      rw [List.map_map]
      rfl
    rw [em]
    have ej' : oJoin (.str (PySem.Str.ofString ",")) (.lst true ((ps.map pt).map D.str)) = _ := ej
    rw [ej']
    unfold lineW
    rw [if_neg (by simpa using q)]
theorem right2 {s : D} (hs : IsS s) : ∃ due w s', RightOk 2 due w ∧ IsS s' ∧ m__law_a_right [s, .int 2] = .ok (.tup [due, .str w]) [s', .non] := by
  have hx0 := isS_isx hs
  obtain ⟨r, s1, hs1, hr0, hr, hx1, e1⟩ := pick hs 9 (by omega) (by omega)
  obtain ⟨ns, s2, hs2, ha, hb, hl, hx2, e2⟩ := rising hs1 (many := r) hr0 (by omega)
  obtain ⟨ps, s3, x4, x5, hs3, hp, hk, e3⟩ := pr_loop ns s2 [] none none none hs2 hb (fun p hp => by cases hp) (by simp; omega)
  rw [List.map_nil, List.nil_append] at hk
  have hpl : ps.length = ns.length := by rw [← hk, List.length_map]
  refine ⟨prsD false ps, lineW ⟨#[44]⟩ (ps.map pt), s3, ⟨line_fine (by omega) (by rw [List.length_map]; omega) (fun w hw => by
    obtain ⟨p, hm, rfl⟩ := List.mem_map.mp hw
    have := pt_small (hp p hm)
    exact ⟨by omega, this.2⟩), rfl, prsD true ps, ?_, rfl, same_prs (by omega), fun _ => ⟨_, rfl, by rw [List.length_map]; omega⟩⟩, hs3, ?_⟩
  · unfold resR
    rw [if_neg (by decide), if_neg (by decide), if_pos rfl, cl_line, List.map_map]
    cases ps with
    | nil => rfl
    | cons p ps =>
      rw [if_neg (by simp)]
      have := pairsR_right hp (by rw [hk]; exact ha)
      show (pairsR (jl 44 ((p :: ps).map fun p => cl (pt p)))).map _ = _
      rw [this]
      rfl
  · have em := pline_made (s := s3) (x2 := none) (x4 := x4) (x5 := x5) (x8 := none) (by omega) hp
    refine def_rt (ρ' := [some s3, some (.int 2), none, some (prsD false ps), x4, x5, none, none, none]) ?_ (by simp [outsOf]) rfl (by simp [hx0])
    refine seq_step (ρ1 := [some s1, some (.int 2), some (.int r), none, none, none, none, none, none]) (by simp [Mir.envOf, e1, hx1]) ?_
    refine seq_step (ρ1 := [some s1, some (.int 2), some (.int r), none, none, none, none, none, none]) (by simp) ?_
    refine seq_step (ρ1 := [some s1, some (.int 2), some (.int r), none, none, none, none, none, none]) (by simp) (seq_ret ?_)
    rw [ifM_app]
    simp only [asB_app, ev2_st_def, peek_def, List.getElem?_cons_zero, List.getElem?_cons_succ, bnd_ok, pure_app, oEq_ii, setq_def, isx_int, decide_true, if_true, Bool.false_eq_true, if_false, List.set_cons_zero, List.set_cons_succ]
    refine seq_step (ρ1 := [some s1, some (.int 2), some (.int r), some (prsD true []), none, none, none, none, none]) (by simp [sizeL]) ?_
    refine seq_step (ρ1 := [some s3, some (.int 2), none, some (prsD true ps), x4, x5, none, none, none]) ?_ (tup_ret (ρ1 := [some s3, some (.int 2), none, some (prsD false ps), x4, x5, none, none, none]) ?_ em)
    · have ec : callM m__law_a_rising [.slot 0, .tmp (mvv 2)] [some s1, some (.int 2), some (.int r), some (prsD true []), none, none, none, none, none] = .ok (intsD true ns) [some s2, some (.int 2), none, some (prsD true []), none, none, none, none, none] := by
        obtain ⟨f, hf⟩ : ∃ f, f = m__law_a_rising := ⟨_, rfl⟩
        rw [← hf] at e2 ⊢
        simp [e2, hx2]
      rw [forL_app, ec, bnd_ok]
      show loopM (stv 4) prBody (fzL (ns.map D.int)) _ = _
      rw [fzL_ints]
      exact e3
    · simp [pairs_fz]
theorem right {s : D} (hs : IsS s) {j : Int} (hj : 0 ≤ j ∧ j < 4) : ∃ due w s', RightOk j due w ∧ IsS s' ∧ isx s' = false ∧ m__law_a_right [s, .int j] = .ok (.tup [due, .str w]) [s', .non] := by
  have hc : j = 0 ∨ j = 1 ∨ j = 2 ∨ j = 3 := by omega
  rcases hc with rfl | rfl | rfl | rfl
  · obtain ⟨d, w, s', a, b, c⟩ := right0 hs; exact ⟨d, w, s', a, b, isS_isx b, c⟩
  · obtain ⟨d, w, s', a, b, c⟩ := right1 hs; exact ⟨d, w, s', a, b, isS_isx b, c⟩
  · obtain ⟨d, w, s', a, b, c⟩ := right2 hs; exact ⟨d, w, s', a, b, isS_isx b, c⟩
  · obtain ⟨d, w, s', a, b, c⟩ := right3 hs; exact ⟨d, w, s', a, b, isS_isx b, c⟩
end K01
end
section
set_option Elab.async false
set_option linter.all false
set_option maxRecDepth 100000
set_option maxHeartbeats 4000000
namespace K01
open PySem PySem.Spec PyProof.Rows L2 Mir MS
def consP (p : List Nat) : List (List Nat) → List (List Nat)
  | [] => [p]
  | q :: qs => (p ++ q) :: qs
theorem spl_pre {c : Nat} {l : List Nat} : ∀ {p : List Nat}, c ∉ p → spl c (p ++ l) = consP p (spl c l)
  | [], _ => by
    cases q : spl c l with
    | nil => exact absurd q (spl_ne c l)
    | cons a r => simp [consP, q]
  | d :: p, h => by
    have h1 : d ≠ c := fun z => h (by rw [z]; exact List.mem_cons_self)
    rw [List.cons_append, spl, if_neg h1, spl_pre fun z => h (List.mem_cons_of_mem _ z)]
    cases q : spl c l with
    | nil => exact absurd q (spl_ne c l)
    | cons a r => rfl
theorem rdL_none {l : List Nat} (h : isNum l = false) : rdL l = none := by unfold rdL; rw [h]; rfl
theorem isNum_bad {l : List Nat} {d : Nat} (hd : d ∈ l) (h : d < 48 ∨ 57 < d) : isNum l = false := by
  cases q : isNum l with
  | false => rfl
  | true => have := dig_of q d hd; omega
theorem isNum_zero {l : List Nat} (h : isNum l = true) : isNum (48 :: l) = false := by
  cases q : isNum (48 :: l) with
  | false => rfl
  | true =>
    rcases (isNum_iff.mp q).2.2.2 with z | z
    · have := (isNum_iff.mp h).1
      simp at z
      exact absurd z this
    · simp at z
/-- x, y numbers, x the lesser; g a row of 41 figures -/
structure XY (X Y G : List Nat) (x y : Int) : Prop where
  nx : isNum X = true
  ny : isNum Y = true
  vx : val X = x
  vy : val Y = y
  lt : x < y
  pos : 1 ≤ x
  gl : G.length = 41
  gd : ∀ c ∈ G, 48 ≤ c ∧ c ≤ 57
section
variable {X Y G : List Nat} {x y : Int} (h : XY X Y G x y)
include h
theorem XY.rx : rdL X = some x := by unfold rdL; rw [h.nx, if_pos rfl, h.vx]
theorem XY.ry : rdL Y = some y := by unfold rdL; rw [h.ny, if_pos rfl, h.vy]
theorem XY.rg : rdL G = none := rdL_none (by
  cases q : isNum G with
  | false => rfl
  | true => have := (isNum_iff.mp q).2.1; have := h.gl; omega)
theorem XY.sx : sgL X = some x := by rw [sgL_num h.nx, h.vx]
theorem XY.sy : sgL Y = some y := by rw [sgL_num h.ny, h.vy]
theorem XY.sg : sgL G = none := by
  unfold sgL
  rw [if_neg, h.rg]
  intro z
  cases q : G with
  | nil => rw [q] at z; cases z
  | cons d r =>
    rw [q] at z
    have := h.gd d (by rw [q]; exact List.mem_cons_self)
    simp at z
    omega
theorem XY.zx : rdL (48 :: X) = none := rdL_none (isNum_zero h.nx)
theorem XY.zy : rdL (48 :: Y) = none := rdL_none (isNum_zero h.ny)
theorem XY.zsy : sgL (48 :: Y) = none := by unfold sgL; rw [if_neg (by simp)]; exact h.zy
theorem XY.sp (c : Nat) (hc : c < 48 ∨ 57 < c) : spl c X = [X] ∧ spl c Y = [Y] ∧ spl c G = [G] ∧ (∀ l, spl c (X ++ l) = consP X (spl c l)) ∧ (∀ l, spl c (Y ++ l) = consP Y (spl c l)) :=
  ⟨spl_free (dig_free h.nx hc), spl_free (dig_free h.ny hc), spl_free (fun z => by have := h.gd c z; omega), fun l => spl_pre (dig_free h.nx hc), fun l => spl_pre (dig_free h.ny hc)⟩
end
theorem rdL_mid {p l : List Nat} {d : Nat} (h : d < 48 ∨ 57 < d) : rdL (p ++ d :: l) = none := rdL_none (isNum_bad (d := d) (by simp) h)
theorem rdL_dash {l : List Nat} : rdL (45 :: l) = none := rdL_none (isNum_bad (d := 45) List.mem_cons_self (by omega))
theorem spl_ne' {c d : Nat} {l : List Nat} (h : d ≠ c) : spl c (d :: l) = consH d (spl c l) := by rw [spl, if_neg h]
theorem spl_eq' {c : Nat} {l : List Nat} : spl c (c :: l) = [] :: spl c l := by rw [spl, if_pos rfl]
theorem ne45 {l : List Nat} {d e : Nat} {r : List Nat} (h : l = d :: e :: r) : l ≠ [45] := by rw [h]; simp
theorem len45 {l : List Nat} (h : l.length ≠ 1) : l ≠ [45] := fun z => h (by rw [z]; rfl)
theorem head45 {l : List Nat} (h : l.head? ≠ some 45) : l ≠ [45] := fun z => h (by rw [z]; rfl)
theorem r_nil : rdL [] = none := by decide
theorem r_0 : rdL [48] = some 0 := by decide
theorem r_1 : rdL [49] = some 1 := by decide
theorem s_nil : sgL [] = none := by decide
theorem s_1 : sgL [49] = some 1 := by decide
theorem s_dash {l : List Nat} : sgL (45 :: l) = (match rdL l with | some n => if n = 0 then none else some (-n) | none => none) := by unfold sgL; rw [if_pos (show (45 :: l).head? = some 45 from rfl)]; rfl
section
variable {X Y G : List Nat} {x y : Int}
theorem near0 (h : XY X Y G x y) : ∀ l ∈ [48 :: X, [48, 48], [45, 48], 45 :: X, [], X ++ 44 :: Y, X ++ 58 :: Y, [97], X ++ [97], [45], X ++ 62 :: Y, G], rdL l = none := by
  intro l hl
  simp only [List.mem_cons, List.not_mem_nil, or_false] at hl
  rcases hl with rfl | rfl | rfl | rfl | rfl | rfl | rfl | rfl | rfl | rfl | rfl | rfl
  · exact h.zx
  · decide
  · decide
  · exact rdL_dash
  · decide
  · exact rdL_mid (by omega)
  · exact rdL_mid (by omega)
  · decide
  · exact rdL_mid (by omega)
  · decide
  · exact rdL_mid (by omega)
  · exact h.rg
theorem near1 (h : XY X Y G x y) : ∀ l ∈ [Y ++ 44 :: X, X ++ 44 :: X, X ++ [44], 44 :: X, [], [45, 45], X ++ 58 :: Y, 48 :: X, 45 :: 44 :: X, X ++ 44 :: 44 :: Y, 45 :: X, X ++ 44 :: 48 :: Y, X ++ 62 :: Y, [48, 48], X ++ 44 :: G, 48 :: 44 :: (X ++ [44, 48])], setR l = none := by
  obtain ⟨s1, s2, s3, s4, s5⟩ := h.sp 44 (by omega)
  have c1 := h.lt
  have c2 := h.pos
  obtain ⟨a, r, ex, ha, ha'⟩ := head_num h.nx
  have m1 : ¬ a = 45 := by omega
  have hx1 : ∀ l, X ++ l ≠ [45] := fun l => head45 (by rw [ex]; simp; omega)
  obtain ⟨b, r', ey, hb, hb'⟩ := head_num h.ny
  have hy1 : ∀ l, Y ++ l ≠ [45] := fun l => head45 (by rw [ey]; simp; omega)
  have hx2 : ∀ l, X ++ 58 :: l = X ++ (58 :: l) := fun _ => rfl
  intro l hl
  simp only [List.mem_cons, List.not_mem_nil, or_false] at hl
  rcases hl with rfl | rfl | rfl | rfl | rfl | rfl | rfl | rfl | rfl | rfl | rfl | rfl | rfl | rfl | rfl | rfl
  all_goals unfold setR
  · rw [if_neg (hy1 _)]; simp [s1, s2, s5, spl_eq', consP, h.rx, h.ry, asc]; omega
  · rw [if_neg (hx1 _)]; simp [s1, s4, spl_eq', consP, h.rx, asc]
  · rw [if_neg (hx1 _)]; simp [s4, spl_eq', consP, h.rx, r_nil, spl]
  · rw [if_neg (head45 (by simp))]; simp [spl_eq', r_nil]
  · decide
  · decide
  · rw [if_neg (hx1 _)]; simp [s2, s4, spl_ne', consP, consH, rdL_mid]
  · rw [if_neg (head45 (by simp))]; simp [s1, spl_ne', consH, h.zx]
  · rw [if_neg (by simp)]; simp [s1, spl_ne', spl_eq', consH, rdL_dash]
  · rw [if_neg (hx1 _)]; simp [s4, spl_eq', consP, h.rx, r_nil]
  · rw [if_neg (by rw [ex]; simp)]; simp [s1, spl_ne', consH, rdL_dash]
  · rw [if_neg (hx1 _)]; simp [s2, s4, spl_eq', spl_ne', consP, consH, h.rx, h.zy]
  · rw [if_neg (hx1 _)]; simp [s2, s4, spl_ne', consP, consH, rdL_mid]
  · decide
  · rw [if_neg (hx1 _)]; simp [s3, s4, spl_eq', consP, h.rx, h.rg]
  · rw [if_neg (head45 (by simp))]; simp [s4, spl_eq', spl_ne', consP, consH, h.rx, r_0, spl, asc]; omega
theorem near3 (h : XY X Y G x y) : ∀ l ∈ [X ++ [62], 62 :: X, X ++ 62 :: 62 :: Y, [], X ++ 44 :: Y, 48 :: (X ++ 62 :: Y), X ++ 62 :: 45 :: Y, 45 :: X, [45, 48], [48, 48], 45 :: 62 :: X, X ++ 58 :: Y, [62], X ++ 62 :: G], rowR l = none := by
  obtain ⟨s1, s2, s3, s4, s5⟩ := h.sp 62 (by omega)
  obtain ⟨a, r, ex, ha, ha'⟩ := head_num h.nx
  have hx1 : ∀ l, X ++ l ≠ [45] := fun l => head45 (by rw [ex]; simp; omega)
  intro l hl
  simp only [List.mem_cons, List.not_mem_nil, or_false] at hl
  rcases hl with rfl | rfl | rfl | rfl | rfl | rfl | rfl | rfl | rfl | rfl | rfl | rfl | rfl | rfl
  all_goals unfold rowR
  · rw [if_neg (hx1 _)]; simp [s4, spl_eq', consP, h.rx, r_nil, spl]
  · rw [if_neg (head45 (by simp))]; simp [spl_eq', r_nil]
  · rw [if_neg (hx1 _)]; simp [s4, spl_eq', consP, h.rx, r_nil]
  · decide
  · rw [if_neg (hx1 _)]; simp [s2, s4, spl_ne', consP, consH, rdL_mid]
  · rw [if_neg (head45 (by simp))]; simp [s4, spl_eq', spl_ne', consP, consH, h.zx]
  · rw [if_neg (hx1 _)]; simp [s2, s4, spl_eq', spl_ne', consP, consH, h.rx, rdL_dash]
  · rw [if_neg (by rw [ex]; simp)]; simp [s1, spl_ne', consH, rdL_dash]
  · decide
  · decide
  · rw [if_neg (by simp)]; simp [s1, spl_ne', spl_eq', consH, rdL_dash]
  · rw [if_neg (hx1 _)]; simp [s2, s4, spl_ne', consP, consH, rdL_mid]
  · decide
  · rw [if_neg (hx1 _)]; simp [s3, s4, spl_eq', consP, h.rx, h.rg]
theorem near2 (h : XY X Y G x y) : ∀ l ∈ [X, X ++ 58 :: (Y ++ 44 :: (X ++ 58 :: X)), Y ++ 58 :: 49 :: 44 :: (X ++ [58, 49]), X ++ 58 :: (Y ++ [44]), X ++ [58, 45, 48], X ++ [58, 45, 45, 49], X ++ [58, 49, 58, 50],
    58 :: X, X ++ [58], 45 :: 58 :: X, 45 :: (X ++ [58, 49]), 48 :: (X ++ [58, 49]), X ++ 58 :: 48 :: Y, [], X ++ [58, 49, 44, 44], X ++ 44 :: Y, X ++ 58 :: G, X ++ 58 :: 45 :: 48 :: Y, X ++ [58, 45], X ++ 58 :: 49 :: 44 :: Y], pairsR l = none := by
  obtain ⟨s1, s2, s3, s4, s5⟩ := h.sp 44 (by omega)
  obtain ⟨t1, t2, t3, t4, t5⟩ := h.sp 58 (by omega)
  have c1 := h.lt
  obtain ⟨a, r, ex, ha, ha'⟩ := head_num h.nx
  have hx0 : X ≠ [45] := head45 (by rw [ex]; simp; omega)
  have hx1 : ∀ l, X ++ l ≠ [45] := fun l => head45 (by rw [ex]; simp; omega)
  obtain ⟨b, r', ey, hb, hb'⟩ := head_num h.ny
  have hy1 : ∀ l, Y ++ l ≠ [45] := fun l => head45 (by rw [ey]; simp; omega)
  intro l hl
  simp only [List.mem_cons, List.not_mem_nil, or_false] at hl
  rcases hl with rfl | rfl | rfl | rfl | rfl | rfl | rfl | rfl | rfl | rfl | rfl | rfl | rfl | rfl | rfl | rfl | rfl | rfl | rfl | rfl
  all_goals unfold pairsR
  · rw [if_neg hx0]; simp [s1, t1, pairR]
  · rw [if_neg (hx1 _)]; simp [s1, s2, s4, s5, t1, t2, t4, t5, spl_eq', spl_ne', consP, consH, pairR, h.rx, h.sx, h.sy, asc]
  · rw [if_neg (hy1 _)]; simp [s1, s2, s4, s5, t1, t2, t4, t5, spl_eq', spl_ne', consP, consH, pairR, h.rx, h.ry, h.sx, h.sy, s_1, spl, asc]; omega
  · rw [if_neg (hx1 _)]; simp [s1, s2, s4, s5, t1, t2, t4, t5, spl_eq', spl_ne', consP, consH, pairR, h.rx, h.sy, spl]
  · rw [if_neg (hx1 _)]; simp [s4, t4, spl_eq', spl_ne', consP, consH, pairR, h.rx, s_dash, r_0, spl]
  · rw [if_neg (hx1 _)]; simp [s4, t4, spl_eq', spl_ne', consP, consH, pairR, h.rx, s_dash, rdL_dash, spl]
  · rw [if_neg (hx1 _)]; simp [s4, t4, spl_eq', spl_ne', consP, consH, pairR, spl]
  · rw [if_neg (head45 (by simp))]; simp [s1, t1, spl_eq', spl_ne', consH, pairR, r_nil]
  · rw [if_neg (hx1 _)]; simp [s4, t4, spl_eq', spl_ne', consP, consH, pairR, h.rx, s_nil, spl]
  · rw [if_neg (by simp)]; simp [s1, t1, spl_eq', spl_ne', consH, pairR, rdL_dash]
  · rw [if_neg (by rw [ex]; simp)]; simp [s4, t4, spl_eq', spl_ne', consP, consH, pairR, rdL_dash, spl]
  · rw [if_neg (head45 (by simp))]; simp [s4, t4, spl_eq', spl_ne', consP, consH, pairR, h.zx, spl]
  · rw [if_neg (hx1 _)]; simp [s2, s4, t2, t4, spl_eq', spl_ne', consP, consH, pairR, h.rx, h.zsy]
  · decide
  · rw [if_neg (hx1 _)]; simp [s4, t4, spl_eq', spl_ne', consP, consH, pairR, h.rx, s_1, spl]
  · rw [if_neg (hx1 _)]; simp [s2, s4, t1, spl_eq', consP, pairR]
  · rw [if_neg (hx1 _)]; simp [s3, s4, t3, t4, spl_eq', spl_ne', consP, consH, pairR, h.rx, h.sg]
  · rw [if_neg (hx1 _)]; simp [s2, s4, t2, t4, spl_eq', spl_ne', consP, consH, pairR, h.rx, s_dash, h.zy]
  · rw [if_neg (hx1 _)]; simp [s4, t4, spl_eq', spl_ne', consP, consH, pairR, h.rx, s_dash, r_nil, spl]
  · rw [if_neg (hx1 _)]; simp [s2, s4, t1, t2, t4, spl_eq', spl_ne', consP, consH, pairR, h.rx, s_1, spl]
end
end K01
end
section
set_option Elab.async false
set_option linter.all false
set_option maxRecDepth 100000
set_option maxHeartbeats 4000000
namespace K01
open PySem PySem.Spec PyProof.Rows L2 Mir MS
open TL (numL numL_lt numL_step numL_digits numL_ne numL_val tl_num)
theorem oStr_ok2 {i : Int} (h0 : 0 ≤ i) (h : i < 10 ^ 41) : oStr (.int i) = some (.str (nt i), .int i) := by
  have h1 : i.natAbs < 2 ^ 1920 := by
    have h2 : (10 : Int) ^ 41 ≤ ((2 ^ 1920 : Nat) : Int) := by
      have : (10 ^ 41 : Nat) ≤ 2 ^ 1920 := by decide +kernel
      have h3 : ((10 ^ 41 : Nat) : Int) ≤ ((2 ^ 1920 : Nat) : Int) := Int.ofNat_le.mpr this
      rw [Int.natCast_pow] at h3
      exact h3
    generalize (2 ^ 1920 : Nat) = z at h2 ⊢
    omega
  have h4 : i.natAbs.log2 < 1920 := by
    by_cases q : i.natAbs = 0
    · rw [q]; decide
    · exact (Nat.log2_lt q).mpr h1
  show (if i.natAbs.log2 < 1920 then _ else _) = _
  rw [if_pos h4]
theorem num_low (n : Nat) : n < 10 ^ (numL n).length := by
  induction n using Nat.strongRecOn with
  | ind n ih =>
    by_cases q : n < 10
    · rw [numL_lt q]; simpa using q
    · have h := ih (n / 10) (by omega)
      rw [numL_step (by omega), List.length_append, List.length_singleton, Nat.pow_succ]
      generalize 10 ^ (numL (n / 10)).length = z at h ⊢
      omega
theorem nt_many {n : Int} (h0 : 0 ≤ n) (h : 10 ^ 40 ≤ n) : 40 < (nt n).length := by
  rw [← cl_len, cl_nn h0]
  have h1 := num_low n.toNat
  by_cases q : 40 < (numL n.toNat).length
  · exact q
  · have h2 : 10 ^ (numL n.toNat).length ≤ 10 ^ 40 := Nat.pow_le_pow_right (by omega) (by omega)
    have h3 : ((10 ^ 40 : Nat) : Int) ≤ n := by rw [Int.natCast_pow]; exact h
    omega
theorem nt_few {n : Int} (h : Big n) : (nt n).length ≤ 40 := by
  have := (isNum_iff.mp (isNum_nt h)).2.1
  rw [cl_len] at this
  exact this
theorem nt_dig {n : Int} (h0 : 0 ≤ n) (h : n < 10) : (nt n).length = 1 ∧ ∀ c ∈ cl (nt n), 48 ≤ c ∧ c ≤ 57 := by
  have e := cl_nn h0
  rw [numL_lt (by omega)] at e
  refine ⟨by rw [← cl_len, e]; rfl, fun c hc => ?_⟩
  rw [e, List.mem_singleton] at hc
  omega
theorem long_loop (m : Nat) : ∀ (lo : Int) (s : D) (g : Str) (x1 x2 x4 x5 : Option D), IsS s → (∀ c ∈ cl g, 48 ≤ c ∧ c ≤ 57) → g.length + m ≤ 1000 → ∃ (g' : Str) (s' : D) (x5' : Option D), IsS s' ∧ (∀ c ∈ cl g', 48 ≤ c ∧ c ≤ 57) ∧ g'.length = g.length + m ∧ loopM (stv 5)
    (asgM (ev2 (.slot 3) (.tmp (ev1 (.tmp (callM m__law_pick [.slot 0, .tmp (pure (.int 10))])) oStr)) oPlus) (stv 3)) (rangeD lo m) [some s, x1, x2, some (.str g), x4, x5, none, none, none] = .ok .nx [some s', x1, x2, some (.str g'), x4, x5', none, none, none] := by
  induction m with
  | zero => exact fun lo s g x1 x2 x4 x5 hs h1 h2 => ⟨g, s, x5, hs, h1, by omega, by rw [rangeD_zero]; rfl⟩
  | succ m ih =>
    intro lo s g x1 x2 x4 x5 hs h1 h2
    obtain ⟨r, s1, hs1, hr0, hr, hx, e⟩ := pick hs 10 (by omega) (by omega)
    obtain ⟨d1, d2⟩ := nt_dig hr0 hr
    have eo := oStr_ok2 hr0 (Int.lt_trans hr (by decide))
    have ep := oPlus_ss (x := g) (y := nt r) (by rw [d1, sizeL]; omega)
    obtain ⟨g', s', y5, a1, a2, a3, a4⟩ := ih (lo + 1) s1 (g ++ nt r) x1 x2 x4 (some (.int lo)) hs1 (fun c hc => by
      rw [cl_app] at hc
      rcases List.mem_append.mp hc with z | z
      · exact h1 c z
      · exact d2 c z) (by rw [len_app, d1]; omega)
    refine ⟨g', s', y5, a1, a2, by rw [a3, len_app, d1]; omega, ?_⟩
    rw [rangeD_succ, loopM_cons]
    obtain ⟨f, hf⟩ : ∃ f, f = m__law_pick := ⟨_, rfl⟩
    rw [← hf] at e a4 ⊢
    simp [e, hx, eo, ep, a4]
/-- a text that is reckoned -/
def SE (f : M D) (ρ : Mir.Env) (w : Str) (n : Nat) : Prop := f ρ = .ok (.str w) ρ ∧ w.length ≤ n
section
variable {ρ : Mir.Env} {f g : M D} {x u v : Str} {m n i : Nat}
theorem SE.c (h : x.length ≤ n) : SE (pure (.str x)) ρ x n := ⟨rfl, h⟩
theorem env_same {d : D} (h : ρ[i]? = some (some d)) : ρ.set i (some d) = ρ := by
  refine List.ext_getElem? fun j => ?_
  by_cases q : i = j
  · subst q; rw [List.getElem?_set_self (ltE h), h]
  · rw [List.getElem?_set_ne q]
theorem SE.rd (h : ρ[i]? = some (some (.str x))) (hn : x.length ≤ n) : SE (rdv i) ρ x n := ⟨by
  rw [rdv_app h, fz_str, env_same h], hn⟩
theorem SE.tt (h : SE f ρ u m) (k : SE g ρ v n) (hz : m + n ≤ 100000 := by decide) : SE (ev2 (.tmp f) (.tmp g) oPlus) ρ (u ++ v) (m + n) := by
  have e := oPlus_ss (x := u) (y := v) (by rw [sizeL]; have := h.2; have := k.2; omega)
  refine ⟨?_, by rw [len_app]; have := h.2; have := k.2; omega⟩
  rw [ev2_tt, h.1, bnd_ok, k.1, bnd_ok, e]
theorem SE.st (h : ρ[i]? = some (some (.str u))) (hm : u.length ≤ m) (k : SE g ρ v n) (hz : m + n ≤ 100000 := by decide) : SE (ev2 (.slot i) (.tmp g) oPlus) ρ (u ++ v) (m + n) := by
  have e := oPlus_ss (x := u) (y := v) (by rw [sizeL]; have := k.2; omega)
  refine ⟨?_, by rw [len_app]; have := k.2; omega⟩
  rw [ev2_st h, k.1, bnd_ok, peek_app h, bnd_ok, e]
  simp only [setq_app isx_str, bnd_ok, env_same h]
theorem SE.ts (k : SE f ρ u m) (h : ρ[i]? = some (some (.str v))) (hn : v.length ≤ n) (hz : m + n ≤ 100000 := by decide) : SE (ev2 (.tmp f) (.slot i) oPlus) ρ (u ++ v) (m + n) := by
  have e := oPlus_ss (x := u) (y := v) (by rw [sizeL]; have := k.2; omega)
  refine ⟨?_, by rw [len_app]; have := k.2; omega⟩
  rw [ev2_ts, k.1, bnd_ok, peek_app h, bnd_ok, e]
  simp only [setq_app isx_str, bnd_ok, env_same h]
/-- a row of them -/
def LE (f : M (List D)) (ρ : Mir.Env) (ws : List Str) : Prop := f ρ = .ok (ws.map D.str) ρ
theorem LE.nil : LE (pure []) ρ [] := rfl
theorem LE.cons {h : M (List D)} {ws : List Str} (a : SE f ρ u n) (b : LE h ρ ws) : LE (consM f h) ρ (u :: ws) := by
  unfold LE at b ⊢
  rw [consM_app, a.1, bnd_ok, b]
  rfl
theorem LE.lst {h : M (List D)} {ws : List Str} (a : LE h ρ ws) (hz : ws.length ≤ 1000) : lstM h ρ = .ok (strsD true ws) ρ := by
  rw [lstM_app, a, bnd_ok, if_pos (by rw [sizeL, List.length_map]; omega)]
end
/-- one of a row -/
theorem one {s : D} (hs : IsS s) {o : Bool} {ws : List Str} (h0 : ws ≠ []) (hn : ws.length ≤ 1000) : ∃ w s', w ∈ ws ∧ IsS s' ∧ isx s' = false ∧ m__law_one [s, strsD o ws] = .ok (.str w) [s', .non] := by
  have hx0 := isS_isx hs
  have hl : 0 < ws.length := List.length_pos_iff.mpr h0
  obtain ⟨m, hm⟩ : ∃ m : Int, m = ((ws.length : Nat) : Int) := ⟨_, rfl⟩
  obtain ⟨r, s1, hs1, hr0, hr, hx1, e1⟩ := pick hs m (by omega) (by omega)
  obtain ⟨w, hw⟩ : ∃ w, ws[r.toNat]? = some w := ⟨_, List.getElem?_eq_getElem (by omega)⟩
  have ei := strs_ix (o := o) hw (i := r) (by omega)
  have el : oLen (strsD o ws) = some (.int m, strsD o ws) := by
    show some (D.int (((ws.map D.str).length : Nat) : Int), _) = _
    rw [List.length_map, hm]
  refine ⟨w, s1, List.mem_of_getElem? hw, hs1, hx1, ?_⟩
  have hxl : isx (strsD o ws) = false := rfl
  generalize strsD o ws = L at ei el hxl ⊢
  obtain ⟨f, hf⟩ : ∃ f, f = m__law_pick := ⟨_, rfl⟩
  refine def_rt (ρ' := [some s1, some L]) ?_ (by simp [outsOf]) rfl (by simp [hx0, hxl])
  unfold g__law_one
  rw [← hf] at e1 ⊢
  simp [Mir.envOf, el, hxl, e1, hx1, ei]
end K01
end
section
set_option Elab.async false
set_option linter.all false
set_option maxRecDepth 100000
set_option maxHeartbeats 4000000
namespace K01
open PySem PySem.Spec PyProof.Rows L2 Mir MS
/-- what the first statements make -/
structure Near (j : Int) (s : D) (x y g : Str) (ρ : Mir.Env) : Prop where
  is : IsS s
  xy : ∃ a b, XY (cl x) (cl y) (cl g) a b
  env : ∃ a b x5 : Option D, ρ = [some s, some (.int j), a, some (.str g), b, x5, some (.str x), some (.str y), none]
theorem XY.of {a b : Int} (h1 : 1 ≤ a) (h2 : a < b) (h3 : b < 10 ^ 40) {g : Str} (hg : g.length = 41) (hd : ∀ c ∈ cl g, 48 ≤ c ∧ c ≤ 57) : XY (cl (nt a)) (cl (nt b)) (cl g) a b :=
  ⟨isNum_nt ⟨by omega, by omega⟩, isNum_nt ⟨by omega, h3⟩, val_nt (by omega), val_nt (by omega), h2, h1, by rw [cl_len]; exact hg, hd⟩
theorem near_start {s : D} (hs : IsS s) (j : Int) : ∃ s' x y g ρ, Near j s' x y g ρ ∧ ∀ (rest : M Flw) (o : Out Flw), rest ρ = o →
    (seqM (parM 2 3 (consM (ev2 (.tmp (pure (.int 1))) (.tmp (callM m__law_a_big [.slot 0])) oPlus) (consM (ev1 (.tmp (ev2 (.tmp (pure (.int 1))) (.tmp (callM m__law_pick [.slot 0, .tmp (pure (.int 9))])) oPlus)) oStr) (pure []))))
    (seqM (asgM (ev2 (.tmp (ev2 (.slot 2) (.tmp (pure (.int 1))) oPlus)) (.tmp (callM m__law_pick [.slot 0, .tmp (pure (.int 9))])) oPlus) (stv 4))
    (seqM (forR1 (consM (pure (.int 40)) (pure [])) (stv 5)
    (asgM (ev2 (.slot 3) (.tmp (ev1 (.tmp (callM m__law_pick [.slot 0, .tmp (pure (.int 10))])) oStr)) oPlus) (stv 3)))
    (seqM (parM 6 7 (consM (ev1 (.slot 2) oStr) (consM (ev1 (.slot 4) oStr) (pure []))))
    (seqM (ifM (asB (ev2 (.tmp (ev1 (.slot 7) oLen)) (.tmp (pure (.int 40))) oGt))
    (asgM (tupM (consM (pure (.str (PySem.Str.ofString "7"))) (consM (pure (.str (PySem.Str.ofString "8"))) (pure [])))) (fun d => match d with | .tup ds => (if ds.length = 2 then (fun ds => match ds with | d :: r => (do (stv 6) d; (fun ds => match ds with | d :: r => (do (stv 7) d; (fun ds => match ds with | [] => pure () | _ => badM) r) | [] => badM) r) | [] => badM) ds else badM) | _ => badM))
    (pure .nx)) rest))))) [some s, some (.int j), none, none, none, none, none, none, none] = o := by
  obtain ⟨n, s1, hs1, hn0, hn, hx1, e1⟩ := big hs
  obtain ⟨p, s2, hs2, hp0, hp, hx2, e2⟩ := pick hs1 9 (by omega) (by omega)
  obtain ⟨q, s3, hs3, hq0, hq, hx3, e3⟩ := pick hs2 9 (by omega) (by omega)
  obtain ⟨l1, l2⟩ := nt_dig (n := 1 + p) (by omega) (by omega)
  obtain ⟨g, s4, x5, hs4, hg, hgl, e4⟩ := long_loop 40 0 s3 (nt (1 + p)) (some (.int j)) (some (.int (1 + n))) (some (.int (1 + n + 1 + q))) none hs3 l2 (by rw [l1]; omega)
  have o1 := oStr_ok2 (i := 1 + p) (by omega) (Int.lt_trans (show 1 + p < 100 from by omega) (by decide))
  have o2 := oStr_ok2 (i := 1 + n) (by omega) (by omega)
  have o3 := oStr_ok2 (i := 1 + n + 1 + q) (by omega) (by omega)
  have hgl' : g.length = 41 := by rw [hgl, l1]
  have hi : Mir.inR 40 = true := by decide
  have st1 : parM 2 3 (consM (ev2 (.tmp (pure (.int 1))) (.tmp (callM m__law_a_big [.slot 0])) oPlus) (consM (ev1 (.tmp (ev2 (.tmp (pure (.int 1))) (.tmp (callM m__law_pick [.slot 0, .tmp (pure (.int 9))])) oPlus)) oStr) (pure []))) [some s, some (.int j), none, none, none, none, none, none, none] =
      .ok .nx [some s2, some (.int j), some (.int (1 + n)), some (.str (nt (1 + p))), none, none, none, none, none] := by
    obtain ⟨f, hf⟩ : ∃ f, f = m__law_a_big := ⟨_, rfl⟩
    obtain ⟨k, hk⟩ : ∃ k, k = m__law_pick := ⟨_, rfl⟩
    rw [← hf] at e1 ⊢
    rw [← hk] at e2 ⊢
    simp [e1, e2, hx1, hx2, o1]
  have st2 : asgM (ev2 (.tmp (ev2 (.slot 2) (.tmp (pure (.int 1))) oPlus)) (.tmp (callM m__law_pick [.slot 0, .tmp (pure (.int 9))])) oPlus) (stv 4) [some s2, some (.int j), some (.int (1 + n)), some (.str (nt (1 + p))), none, none, none, none, none] =
      .ok .nx [some s3, some (.int j), some (.int (1 + n)), some (.str (nt (1 + p))), some (.int (1 + n + 1 + q)), none, none, none, none] := by
    obtain ⟨k, hk⟩ : ∃ k, k = m__law_pick := ⟨_, rfl⟩
    rw [← hk] at e3 ⊢
    simp [e3, hx3]
  have st3 : forR1 (consM (pure (.int 40)) (pure [])) (stv 5) (asgM (ev2 (.slot 3) (.tmp (ev1 (.tmp (callM m__law_pick [.slot 0, .tmp (pure (.int 10))])) oStr)) oPlus) (stv 3)) [some s3, some (.int j), some (.int (1 + n)), some (.str (nt (1 + p))), some (.int (1 + n + 1 + q)), none, none, none, none] =
      .ok .nx [some s4, some (.int j), some (.int (1 + n)), some (.str g), some (.int (1 + n + 1 + q)), x5, none, none, none] := by
    rw [forR1_app, consM_app, pure_app, bnd_ok, pure_app, bnd_ok, bnd_ok]
    show (if Mir.inR 40 = true then _ else _) = _
    rw [if_pos hi]
    exact e4
  have st4 : parM 6 7 (consM (ev1 (.slot 2) oStr) (consM (ev1 (.slot 4) oStr) (pure []))) [some s4, some (.int j), some (.int (1 + n)), some (.str g), some (.int (1 + n + 1 + q)), x5, none, none, none] =
      .ok .nx [some s4, some (.int j), some (.int (1 + n)), some (.str g), some (.int (1 + n + 1 + q)), x5, some (.str (nt (1 + n))), some (.str (nt (1 + n + 1 + q))), none] := by
    simp [o2, o3]
  obtain ⟨m, hm⟩ : ∃ m : Int, m = (((nt (1 + n + 1 + q)).length : Nat) : Int) := ⟨_, rfl⟩
  have el : oLen (.str (nt (1 + n + 1 + q))) = some (.int m, .str (nt (1 + n + 1 + q))) := by
    rw [hm]
    show (if (nt (1 + n + 1 + q)).length ≤ sizeLine then _ else _) = _
    rw [if_pos]
    rw [sizeL, ← cl_len, cl_nn (by omega)]
    have h41 : ((10 ^ 41 : Nat) : Int) = 10 ^ 41 := by rw [Int.natCast_pow]; rfl
    have := MS.numL_len 40 (1 + n + 1 + q).toNat (by omega)
    omega
  by_cases c : 10 ^ 40 ≤ 1 + n + 1 + q
  · have hlen := nt_many (n := 1 + n + 1 + q) (by omega) c
    have c' : (40 : Int) < m := by omega
    refine ⟨s4, nt 7, nt 8, g, [some s4, some (.int j), some (.int (1 + n)), some (.str g), some (.int (1 + n + 1 + q)), x5, some (.str (nt 7)), some (.str (nt 8)), none], ⟨hs4, ⟨7, 8, XY.of (by omega) (by omega) (by decide) hgl' hg⟩, _, _, _, rfl⟩, fun rest o ho => ?_⟩
    refine seq_step st1 (seq_step st2 (seq_step st3 (seq_step st4 (seq_step ?_ ho))))
    have e7 : PySem.Str.ofString "7" = nt 7 := by decide +kernel
    have e8 : PySem.Str.ofString "8" = nt 8 := by decide +kernel
    rw [e7, e8]
    generalize nt (1 + n + 1 + q) = z at el ⊢
    simp [el, c', sizeL, noX_app]
  · have hlen := nt_few (n := 1 + n + 1 + q) ⟨by omega, by omega⟩
    have c' : ¬ (40 : Int) < m := by omega
    refine ⟨s4, nt (1 + n), nt (1 + n + 1 + q), g, [some s4, some (.int j), some (.int (1 + n)), some (.str g), some (.int (1 + n + 1 + q)), x5, some (.str (nt (1 + n))), some (.str (nt (1 + n + 1 + q))), none], ⟨hs4, ⟨_, _, XY.of (by omega) (by omega) (by omega) hgl' hg⟩, _, _, _, rfl⟩, fun rest o ho => ?_⟩
    refine seq_step st1 (seq_step st2 (seq_step st3 (seq_step st4 (seq_step ?_ ho))))
    generalize nt (1 + n + 1 + q) = z at el ⊢
    simp [el, c']
end K01
end
section
set_option Elab.async false
set_option linter.all false
set_option maxRecDepth 100000
set_option maxHeartbeats 4000000
namespace K01
open PySem PySem.Spec PyProof.Rows L2 Mir MS
theorem oPlus_strs {o u : Bool} {a b : List Str} (h : a.length + b.length ≤ 1000) : oPlus (strsD o a) (strsD u b) = some (strsD true (a ++ b), strsD o a, strsD u b) := by
  show oCatL (.lst o (a.map D.str)) (.lst u (b.map D.str)) = _
  show (if (a.map D.str).length + (b.map D.str).length ≤ sizeLine then _ else _) = _
  rw [if_pos (by rw [sizeL, List.length_map, List.length_map]; omega), strs_fz, strs_fz, ← List.map_append]
theorem lit0 : cl (PySem.Str.ofString "") = [] := by decide +kernel
theorem lit1 : cl (PySem.Str.ofString ",") = [44] := by decide +kernel
theorem lit2 : cl (PySem.Str.ofString ",,") = [44, 44] := by decide +kernel
theorem lit3 : cl (PySem.Str.ofString ",0") = [44, 48] := by decide +kernel
theorem lit4 : cl (PySem.Str.ofString "-") = [45] := by decide +kernel
theorem lit5 : cl (PySem.Str.ofString "-,") = [45, 44] := by decide +kernel
theorem lit6 : cl (PySem.Str.ofString "--") = [45, 45] := by decide +kernel
theorem lit7 : cl (PySem.Str.ofString "-0") = [45, 48] := by decide +kernel
theorem lit8 : cl (PySem.Str.ofString "-:") = [45, 58] := by decide +kernel
theorem lit9 : cl (PySem.Str.ofString "->") = [45, 62] := by decide +kernel
theorem lit10 : cl (PySem.Str.ofString "0") = [48] := by decide +kernel
theorem lit11 : cl (PySem.Str.ofString "0,") = [48, 44] := by decide +kernel
theorem lit12 : cl (PySem.Str.ofString "00") = [48, 48] := by decide +kernel
theorem lit13 : cl (PySem.Str.ofString ":") = [58] := by decide +kernel
theorem lit14 : cl (PySem.Str.ofString ":-") = [58, 45] := by decide +kernel
theorem lit15 : cl (PySem.Str.ofString ":--1") = [58, 45, 45, 49] := by decide +kernel
theorem lit16 : cl (PySem.Str.ofString ":-0") = [58, 45, 48] := by decide +kernel
theorem lit17 : cl (PySem.Str.ofString ":0") = [58, 48] := by decide +kernel
theorem lit18 : cl (PySem.Str.ofString ":1") = [58, 49] := by decide +kernel
theorem lit19 : cl (PySem.Str.ofString ":1,") = [58, 49, 44] := by decide +kernel
theorem lit20 : cl (PySem.Str.ofString ":1,,") = [58, 49, 44, 44] := by decide +kernel
theorem lit21 : cl (PySem.Str.ofString ":1:2") = [58, 49, 58, 50] := by decide +kernel
theorem lit22 : cl (PySem.Str.ofString ">") = [62] := by decide +kernel
theorem lit23 : cl (PySem.Str.ofString ">-") = [62, 45] := by decide +kernel
theorem lit24 : cl (PySem.Str.ofString ">>") = [62, 62] := by decide +kernel
theorem lit25 : cl (PySem.Str.ofString "a") = [97] := by decide +kernel
abbrev ws0 (x y g : Str) : List Str := [((PySem.Str.ofString "0") ++ x), (PySem.Str.ofString "00"), (PySem.Str.ofString "-0"), ((PySem.Str.ofString "-") ++ x), (PySem.Str.ofString ""), ((x ++ (PySem.Str.ofString ",")) ++ y), ((x ++ (PySem.Str.ofString ":")) ++ y), (PySem.Str.ofString "a"), (x ++ (PySem.Str.ofString "a")), (PySem.Str.ofString "-"), ((x ++ (PySem.Str.ofString ">")) ++ y), g]
theorem ws0_cl (x y g : Str) : (ws0 x y g).map cl = [[48] ++ cl x, [48, 48], [45, 48], [45] ++ cl x, [], cl x ++ [44] ++ cl y, cl x ++ [58] ++ cl y, [97], cl x ++ [97], [45], cl x ++ [62] ++ cl y, cl g] := by
  simp [cl_app, lit0, lit1, lit2, lit3, lit4, lit5, lit6, lit7, lit8, lit9, lit10, lit11, lit12, lit13, lit14, lit15, lit16, lit17, lit18, lit19, lit20, lit21, lit22, lit23, lit24, lit25]
abbrev ws1 (x y g : Str) : List Str := [((y ++ (PySem.Str.ofString ",")) ++ x), ((x ++ (PySem.Str.ofString ",")) ++ x), (x ++ (PySem.Str.ofString ",")), ((PySem.Str.ofString ",") ++ x), (PySem.Str.ofString ""), (PySem.Str.ofString "--"), ((x ++ (PySem.Str.ofString ":")) ++ y), ((PySem.Str.ofString "0") ++ x), ((PySem.Str.ofString "-,") ++ x), ((x ++ (PySem.Str.ofString ",,")) ++ y), ((PySem.Str.ofString "-") ++ x), ((x ++ (PySem.Str.ofString ",0")) ++ y), ((x ++ (PySem.Str.ofString ">")) ++ y), (PySem.Str.ofString "00"), ((x ++ (PySem.Str.ofString ",")) ++ g), (((PySem.Str.ofString "0,") ++ x) ++ (PySem.Str.ofString ",0"))]
theorem ws1_cl (x y g : Str) : (ws1 x y g).map cl = [cl y ++ [44] ++ cl x, cl x ++ [44] ++ cl x, cl x ++ [44], [44] ++ cl x, [], [45, 45], cl x ++ [58] ++ cl y, [48] ++ cl x, [45, 44] ++ cl x, cl x ++ [44, 44] ++ cl y, [45] ++ cl x, cl x ++ [44, 48] ++ cl y, cl x ++ [62] ++ cl y, [48, 48], cl x ++ [44] ++ cl g, [48, 44] ++ cl x ++ [44, 48]] := by
  simp [cl_app, lit0, lit1, lit2, lit3, lit4, lit5, lit6, lit7, lit8, lit9, lit10, lit11, lit12, lit13, lit14, lit15, lit16, lit17, lit18, lit19, lit20, lit21, lit22, lit23, lit24, lit25]
abbrev ws2 (x y g : Str) : List Str := [x, ((((((x ++ (PySem.Str.ofString ":")) ++ y) ++ (PySem.Str.ofString ",")) ++ x) ++ (PySem.Str.ofString ":")) ++ x), (((y ++ (PySem.Str.ofString ":1,")) ++ x) ++ (PySem.Str.ofString ":1")), (((x ++ (PySem.Str.ofString ":")) ++ y) ++ (PySem.Str.ofString ",")), (x ++ (PySem.Str.ofString ":-0")), (x ++ (PySem.Str.ofString ":--1")), (x ++ (PySem.Str.ofString ":1:2")), ((PySem.Str.ofString ":") ++ x), (x ++ (PySem.Str.ofString ":")), ((PySem.Str.ofString "-:") ++ x), (((PySem.Str.ofString "-") ++ x) ++ (PySem.Str.ofString ":1")), (((PySem.Str.ofString "0") ++ x) ++ (PySem.Str.ofString ":1")), ((x ++ (PySem.Str.ofString ":0")) ++ y), (PySem.Str.ofString ""), (x ++ (PySem.Str.ofString ":1,,")), ((x ++ (PySem.Str.ofString ",")) ++ y), ((x ++ (PySem.Str.ofString ":")) ++ g), ((x ++ (PySem.Str.ofString ":-0")) ++ y), (x ++ (PySem.Str.ofString ":-")), ((x ++ (PySem.Str.ofString ":1,")) ++ y)]
theorem ws2_cl (x y g : Str) : (ws2 x y g).map cl = [cl x, cl x ++ [58] ++ cl y ++ [44] ++ cl x ++ [58] ++ cl x, cl y ++ [58, 49, 44] ++ cl x ++ [58, 49], cl x ++ [58] ++ cl y ++ [44], cl x ++ [58, 45, 48], cl x ++ [58, 45, 45, 49], cl x ++ [58, 49, 58, 50], [58] ++ cl x, cl x ++ [58], [45, 58] ++ cl x, [45] ++ cl x ++ [58, 49], [48] ++ cl x ++ [58, 49], cl x ++ [58, 48] ++ cl y, [], cl x ++ [58, 49, 44, 44], cl x ++ [44] ++ cl y, cl x ++ [58] ++ cl g, cl x ++ [58, 45, 48] ++ cl y, cl x ++ [58, 45], cl x ++ [58, 49, 44] ++ cl y] := by
  simp [cl_app, lit0, lit1, lit2, lit3, lit4, lit5, lit6, lit7, lit8, lit9, lit10, lit11, lit12, lit13, lit14, lit15, lit16, lit17, lit18, lit19, lit20, lit21, lit22, lit23, lit24, lit25]
abbrev ws3 (x y g : Str) : List Str := [(x ++ (PySem.Str.ofString ">")), ((PySem.Str.ofString ">") ++ x), ((x ++ (PySem.Str.ofString ">>")) ++ y), (PySem.Str.ofString ""), ((x ++ (PySem.Str.ofString ",")) ++ y), ((((PySem.Str.ofString "0") ++ x) ++ (PySem.Str.ofString ">")) ++ y), ((x ++ (PySem.Str.ofString ">-")) ++ y), ((PySem.Str.ofString "-") ++ x), (PySem.Str.ofString "-0"), (PySem.Str.ofString "00"), ((PySem.Str.ofString "->") ++ x), ((x ++ (PySem.Str.ofString ":")) ++ y), (PySem.Str.ofString ">"), ((x ++ (PySem.Str.ofString ">")) ++ g)]
theorem ws3_cl (x y g : Str) : (ws3 x y g).map cl = [cl x ++ [62], [62] ++ cl x, cl x ++ [62, 62] ++ cl y, [], cl x ++ [44] ++ cl y, [48] ++ cl x ++ [62] ++ cl y, cl x ++ [62, 45] ++ cl y, [45] ++ cl x, [45, 48], [48, 48], [45, 62] ++ cl x, cl x ++ [58] ++ cl y, [62], cl x ++ [62] ++ cl g] := by
  simp [cl_app, lit0, lit1, lit2, lit3, lit4, lit5, lit6, lit7, lit8, lit9, lit10, lit11, lit12, lit13, lit14, lit15, lit16, lit17, lit18, lit19, lit20, lit21, lit22, lit23, lit24, lit25]
end K01
end
section
set_option Elab.async false
set_option linter.all false
set_option maxRecDepth 100000
set_option maxHeartbeats 4000000
namespace K01
open PySem PySem.Spec PyProof.Rows L2 Mir MS
theorem fine_of {w : Str} (h1 : (cl w).length ≤ 1000) (h2 : (cl w).all (fun c => decide (c < 128)) = true) : Fine w := ⟨by rw [← cl_len]; omega, fun c hc => of_decide_eq_true (List.all_eq_true.mp h2 c hc)⟩
section
variable {x y g : Str} {a b : Int} (h : XY (cl x) (cl y) (cl g) a b)
include h
theorem XY.small : ((cl x).length ≤ 40 ∧ (cl y).length ≤ 40 ∧ (cl g).length ≤ 41) ∧ (cl x).all (fun c => decide (c < 128)) = true ∧ (cl y).all (fun c => decide (c < 128)) = true ∧ (cl g).all (fun c => decide (c < 128)) = true :=
  ⟨⟨(isNum_iff.mp h.nx).2.1, (isNum_iff.mp h.ny).2.1, by rw [h.gl]; omega⟩, List.all_eq_true.mpr fun c hc => decide_eq_true (by have := dig_of h.nx c hc; omega),
    List.all_eq_true.mpr fun c hc => decide_eq_true (by have := dig_of h.ny c hc; omega), List.all_eq_true.mpr fun c hc => decide_eq_true (by have := h.gd c hc; omega)⟩
theorem bad0 : ∀ w ∈ ws0 x y g, Fine w ∧ resR 0 (cl w) = none := by
  intro w hw
  obtain ⟨⟨z1, z2, z3⟩, z4, z5, z6⟩ := h.small
  have hm : cl w ∈ (ws0 x y g).map cl := List.mem_map_of_mem hw
  rw [ws0_cl] at hm
  refine ⟨?_, ?_⟩
  · simp only [List.mem_cons, List.not_mem_nil, or_false] at hm
    rcases hm with e | e | e | e | e | e | e | e | e | e | e | e
    all_goals refine fine_of ?_ ?_
    all_goals rw [e]
    all_goals first
      | omega
      | assumption
      | (simp only [List.length_append, List.length_cons, List.length_nil]; omega)
      | (simp [z4, z5, z6]; done)
  · have q := near0 h (cl w) (by simpa using hm)
    unfold resR
    rw [if_pos rfl, q]
    rfl
theorem bad1 : ∀ w ∈ ws1 x y g, Fine w ∧ resR 1 (cl w) = none := by
  intro w hw
  obtain ⟨⟨z1, z2, z3⟩, z4, z5, z6⟩ := h.small
  have hm : cl w ∈ (ws1 x y g).map cl := List.mem_map_of_mem hw
  rw [ws1_cl] at hm
  refine ⟨?_, ?_⟩
  · simp only [List.mem_cons, List.not_mem_nil, or_false] at hm
    rcases hm with e | e | e | e | e | e | e | e | e | e | e | e | e | e | e | e
    all_goals refine fine_of ?_ ?_
    all_goals rw [e]
    all_goals first
      | omega
      | assumption
      | (simp only [List.length_append, List.length_cons, List.length_nil]; omega)
      | (simp [z4, z5, z6]; done)
  · have q := near1 h (cl w) (by simpa using hm)
    unfold resR
    simp only [show ¬ (1 : Int) = 0 by decide, if_true, if_false, q]
    rfl
theorem bad2 : ∀ w ∈ ws2 x y g, Fine w ∧ resR 2 (cl w) = none := by
  intro w hw
  obtain ⟨⟨z1, z2, z3⟩, z4, z5, z6⟩ := h.small
  have hm : cl w ∈ (ws2 x y g).map cl := List.mem_map_of_mem hw
  rw [ws2_cl] at hm
  refine ⟨?_, ?_⟩
  · simp only [List.mem_cons, List.not_mem_nil, or_false] at hm
    rcases hm with e | e | e | e | e | e | e | e | e | e | e | e | e | e | e | e | e | e | e | e
    all_goals refine fine_of ?_ ?_
    all_goals rw [e]
    all_goals first
      | omega
      | assumption
      | (simp only [List.length_append, List.length_cons, List.length_nil]; omega)
      | (simp [z4, z5, z6]; done)
  · have q := near2 h (cl w) (by simpa using hm)
    unfold resR
    simp only [show ¬ (2 : Int) = 0 by decide, show ¬ (2 : Int) = 1 by decide, if_true, if_false, q]
    rfl
theorem bad3 : ∀ w ∈ ws3 x y g, Fine w ∧ resR 3 (cl w) = none := by
  intro w hw
  obtain ⟨⟨z1, z2, z3⟩, z4, z5, z6⟩ := h.small
  have hm : cl w ∈ (ws3 x y g).map cl := List.mem_map_of_mem hw
  rw [ws3_cl] at hm
  refine ⟨?_, ?_⟩
  · simp only [List.mem_cons, List.not_mem_nil, or_false] at hm
    rcases hm with e | e | e | e | e | e | e | e | e | e | e | e | e | e
    all_goals refine fine_of ?_ ?_
    all_goals rw [e]
    all_goals first
      | omega
      | assumption
      | (simp only [List.length_append, List.length_cons, List.length_nil]; omega)
      | (simp [z4, z5, z6]; done)
  · have q := near3 h (cl w) (by simpa using hm)
    unfold resR
    simp only [show ¬ (3 : Int) = 0 by decide, show ¬ (3 : Int) = 1 by decide, show ¬ (3 : Int) = 2 by decide, if_true, if_false, q]
    rfl
end
def LEx (f : M (List D)) (ρ : Mir.Env) (ws : List Str) (ρ' : Mir.Env) : Prop := f ρ = .ok (ws.map D.str) ρ'
theorem LEx.cons {ρ ρ' : Mir.Env} {f : M D} {u : Str} {n : Nat} {h : M (List D)} {ws : List Str} (a : SE f ρ u n) (b : LEx h ρ ws ρ') : LEx (consM f h) ρ (u :: ws) ρ' := by
  unfold LEx at b ⊢
  rw [consM_app, a.1, bnd_ok, b]
  rfl
theorem LEx.last {ρ : Mir.Env} {i : Nat} {x : Str} (h : ρ[i]? = some (some (.str x))) : LEx (consM (mvv i) (pure [])) ρ [x] (ρ.set i none) := by
  unfold LEx
  rw [consM_app, mvv_app h]
  rfl
theorem LEx.lst {ρ ρ' : Mir.Env} {h : M (List D)} {ws : List Str} (a : LEx h ρ ws ρ') (hz : ws.length ≤ 1000) : lstM h ρ = .ok (strsD true ws) ρ' := by
  rw [lstM_app, a, bnd_ok, if_pos (by rw [sizeL, List.length_map]; omega)]
section
variable {s : D} {j : Int} {A B x5 : Option D} {x y g : Str}
abbrev envN (s : D) (j : Int) (A B x5 : Option D) (x y g : Str) (r : Option D) : Mir.Env := [some s, some (.int j), A, some (.str g), B, x5, some (.str x), some (.str y), r]
abbrev lw1 (x y g : Str) : List Str := [((y ++ (PySem.Str.ofString ",")) ++ x), ((x ++ (PySem.Str.ofString ",")) ++ x), (x ++ (PySem.Str.ofString ",")), ((PySem.Str.ofString ",") ++ x), (PySem.Str.ofString ""), (PySem.Str.ofString "--"), ((x ++ (PySem.Str.ofString ":")) ++ y), ((PySem.Str.ofString "0") ++ x), ((PySem.Str.ofString "-,") ++ x), ((x ++ (PySem.Str.ofString ",,")) ++ y)]
theorem made1 {r : Option D} (lx : x.length ≤ 40) (ly : y.length ≤ 40) (lg : g.length ≤ 41) : (lstM (consM (ev2 (.tmp (ev2 (.slot 7) (.tmp (pure (.str (PySem.Str.ofString ",")))) oPlus)) (.slot 6) oPlus) (consM (ev2 (.tmp (ev2 (.slot 6) (.tmp (pure (.str (PySem.Str.ofString ",")))) oPlus)) (.slot 6) oPlus) (consM (ev2 (.slot 6) (.tmp (pure (.str (PySem.Str.ofString ",")))) oPlus) (consM (ev2 (.tmp (pure (.str (PySem.Str.ofString ",")))) (.slot 6) oPlus) (consM (pure (.str (PySem.Str.ofString ""))) (consM (pure (.str (PySem.Str.ofString "--"))) (consM (ev2 (.tmp (ev2 (.slot 6) (.tmp (pure (.str (PySem.Str.ofString ":")))) oPlus)) (.slot 7) oPlus) (consM (ev2 (.tmp (pure (.str (PySem.Str.ofString "0")))) (.slot 6) oPlus) (consM (ev2 (.tmp (pure (.str (PySem.Str.ofString "-,")))) (.slot 6) oPlus) (consM (ev2 (.tmp (ev2 (.slot 6) (.tmp (pure (.str (PySem.Str.ofString ",,")))) oPlus)) (.slot 7) oPlus) (pure [])))))))))))) (envN s j A B x5 x y g r) = .ok (strsD true (lw1 x y g)) (envN s j A B x5 x y g r) := by
  have px : (envN s j A B x5 x y g r)[6]? = some (some (.str x)) := rfl
  have py : (envN s j A B x5 x y g r)[7]? = some (some (.str y)) := rfl
  have pg : (envN s j A B x5 x y g r)[3]? = some (some (.str g)) := rfl
  exact LE.lst ((LE.cons (SE.ts (n := 40) (SE.st (m := 40) py ly (SE.c (n := 10) (by decide +kernel))) px lx)
      (LE.cons (SE.ts (n := 40) (SE.st (m := 40) px lx (SE.c (n := 10) (by decide +kernel))) px lx)
      (LE.cons (SE.st (m := 40) px lx (SE.c (n := 10) (by decide +kernel)))
      (LE.cons (SE.ts (n := 40) (SE.c (n := 10) (by decide +kernel)) px lx)
      (LE.cons (SE.c (n := 10) (by decide +kernel))
      (LE.cons (SE.c (n := 10) (by decide +kernel))
      (LE.cons (SE.ts (n := 40) (SE.st (m := 40) px lx (SE.c (n := 10) (by decide +kernel))) py ly)
      (LE.cons (SE.ts (n := 40) (SE.c (n := 10) (by decide +kernel)) px lx)
      (LE.cons (SE.ts (n := 40) (SE.c (n := 10) (by decide +kernel)) px lx)
      (LE.cons (SE.ts (n := 40) (SE.st (m := 40) px lx (SE.c (n := 10) (by decide +kernel))) py ly)
      LE.nil))))))))))) (by simp)
abbrev lw2 (x y g : Str) : List Str := [((PySem.Str.ofString "-") ++ x), ((x ++ (PySem.Str.ofString ",0")) ++ y), ((x ++ (PySem.Str.ofString ">")) ++ y), (PySem.Str.ofString "00"), ((x ++ (PySem.Str.ofString ",")) ++ g), (((PySem.Str.ofString "0,") ++ x) ++ (PySem.Str.ofString ",0"))]
theorem made2 {r : Option D} (lx : x.length ≤ 40) (ly : y.length ≤ 40) (lg : g.length ≤ 41) : (lstM (consM (ev2 (.tmp (pure (.str (PySem.Str.ofString "-")))) (.slot 6) oPlus) (consM (ev2 (.tmp (ev2 (.slot 6) (.tmp (pure (.str (PySem.Str.ofString ",0")))) oPlus)) (.slot 7) oPlus) (consM (ev2 (.tmp (ev2 (.slot 6) (.tmp (pure (.str (PySem.Str.ofString ">")))) oPlus)) (.slot 7) oPlus) (consM (pure (.str (PySem.Str.ofString "00"))) (consM (ev2 (.tmp (ev2 (.slot 6) (.tmp (pure (.str (PySem.Str.ofString ",")))) oPlus)) (.slot 3) oPlus) (consM (ev2 (.tmp (ev2 (.tmp (pure (.str (PySem.Str.ofString "0,")))) (.slot 6) oPlus)) (.tmp (pure (.str (PySem.Str.ofString ",0")))) oPlus) (pure [])))))))) (envN s j A B x5 x y g r) = .ok (strsD true (lw2 x y g)) (envN s j A B x5 x y g r) := by
  have px : (envN s j A B x5 x y g r)[6]? = some (some (.str x)) := rfl
  have py : (envN s j A B x5 x y g r)[7]? = some (some (.str y)) := rfl
  have pg : (envN s j A B x5 x y g r)[3]? = some (some (.str g)) := rfl
  exact LE.lst ((LE.cons (SE.ts (n := 40) (SE.c (n := 10) (by decide +kernel)) px lx)
      (LE.cons (SE.ts (n := 40) (SE.st (m := 40) px lx (SE.c (n := 10) (by decide +kernel))) py ly)
      (LE.cons (SE.ts (n := 40) (SE.st (m := 40) px lx (SE.c (n := 10) (by decide +kernel))) py ly)
      (LE.cons (SE.c (n := 10) (by decide +kernel))
      (LE.cons (SE.ts (n := 41) (SE.st (m := 40) px lx (SE.c (n := 10) (by decide +kernel))) pg lg)
      (LE.cons (SE.tt (SE.ts (n := 40) (SE.c (n := 10) (by decide +kernel)) px lx) (SE.c (n := 10) (by decide +kernel)))
      LE.nil))))))) (by simp)
abbrev lw3 (x y g : Str) : List Str := [x, ((((((x ++ (PySem.Str.ofString ":")) ++ y) ++ (PySem.Str.ofString ",")) ++ x) ++ (PySem.Str.ofString ":")) ++ x), (((y ++ (PySem.Str.ofString ":1,")) ++ x) ++ (PySem.Str.ofString ":1")), (((x ++ (PySem.Str.ofString ":")) ++ y) ++ (PySem.Str.ofString ",")), (x ++ (PySem.Str.ofString ":-0")), (x ++ (PySem.Str.ofString ":--1")), (x ++ (PySem.Str.ofString ":1:2"))]
theorem made3 {r : Option D} (lx : x.length ≤ 40) (ly : y.length ≤ 40) (lg : g.length ≤ 41) : (lstM (consM (rdv 6) (consM (ev2 (.tmp (ev2 (.tmp (ev2 (.tmp (ev2 (.tmp (ev2 (.tmp (ev2 (.slot 6) (.tmp (pure (.str (PySem.Str.ofString ":")))) oPlus)) (.slot 7) oPlus)) (.tmp (pure (.str (PySem.Str.ofString ",")))) oPlus)) (.slot 6) oPlus)) (.tmp (pure (.str (PySem.Str.ofString ":")))) oPlus)) (.slot 6) oPlus) (consM (ev2 (.tmp (ev2 (.tmp (ev2 (.slot 7) (.tmp (pure (.str (PySem.Str.ofString ":1,")))) oPlus)) (.slot 6) oPlus)) (.tmp (pure (.str (PySem.Str.ofString ":1")))) oPlus) (consM (ev2 (.tmp (ev2 (.tmp (ev2 (.slot 6) (.tmp (pure (.str (PySem.Str.ofString ":")))) oPlus)) (.slot 7) oPlus)) (.tmp (pure (.str (PySem.Str.ofString ",")))) oPlus) (consM (ev2 (.slot 6) (.tmp (pure (.str (PySem.Str.ofString ":-0")))) oPlus) (consM (ev2 (.slot 6) (.tmp (pure (.str (PySem.Str.ofString ":--1")))) oPlus) (consM (ev2 (.slot 6) (.tmp (pure (.str (PySem.Str.ofString ":1:2")))) oPlus) (pure []))))))))) (envN s j A B x5 x y g r) = .ok (strsD true (lw3 x y g)) (envN s j A B x5 x y g r) := by
  have px : (envN s j A B x5 x y g r)[6]? = some (some (.str x)) := rfl
  have py : (envN s j A B x5 x y g r)[7]? = some (some (.str y)) := rfl
  have pg : (envN s j A B x5 x y g r)[3]? = some (some (.str g)) := rfl
  exact LE.lst ((LE.cons (SE.rd (n := 40) px lx)
      (LE.cons (SE.ts (n := 40) (SE.tt (SE.ts (n := 40) (SE.tt (SE.ts (n := 40) (SE.st (m := 40) px lx (SE.c (n := 10) (by decide +kernel))) py ly) (SE.c (n := 10) (by decide +kernel))) px lx) (SE.c (n := 10) (by decide +kernel))) px lx)
      (LE.cons (SE.tt (SE.ts (n := 40) (SE.st (m := 40) py ly (SE.c (n := 10) (by decide +kernel))) px lx) (SE.c (n := 10) (by decide +kernel)))
      (LE.cons (SE.tt (SE.ts (n := 40) (SE.st (m := 40) px lx (SE.c (n := 10) (by decide +kernel))) py ly) (SE.c (n := 10) (by decide +kernel)))
      (LE.cons (SE.st (m := 40) px lx (SE.c (n := 10) (by decide +kernel)))
      (LE.cons (SE.st (m := 40) px lx (SE.c (n := 10) (by decide +kernel)))
      (LE.cons (SE.st (m := 40) px lx (SE.c (n := 10) (by decide +kernel)))
      LE.nil)))))))) (by simp)
abbrev lw4 (x y g : Str) : List Str := [((PySem.Str.ofString ":") ++ x), (x ++ (PySem.Str.ofString ":")), ((PySem.Str.ofString "-:") ++ x), (((PySem.Str.ofString "-") ++ x) ++ (PySem.Str.ofString ":1")), (((PySem.Str.ofString "0") ++ x) ++ (PySem.Str.ofString ":1")), ((x ++ (PySem.Str.ofString ":0")) ++ y), (PySem.Str.ofString ""), (x ++ (PySem.Str.ofString ":1,,")), ((x ++ (PySem.Str.ofString ",")) ++ y)]
theorem made4 {r : Option D} (lx : x.length ≤ 40) (ly : y.length ≤ 40) (lg : g.length ≤ 41) : (lstM (consM (ev2 (.tmp (pure (.str (PySem.Str.ofString ":")))) (.slot 6) oPlus) (consM (ev2 (.slot 6) (.tmp (pure (.str (PySem.Str.ofString ":")))) oPlus) (consM (ev2 (.tmp (pure (.str (PySem.Str.ofString "-:")))) (.slot 6) oPlus) (consM (ev2 (.tmp (ev2 (.tmp (pure (.str (PySem.Str.ofString "-")))) (.slot 6) oPlus)) (.tmp (pure (.str (PySem.Str.ofString ":1")))) oPlus) (consM (ev2 (.tmp (ev2 (.tmp (pure (.str (PySem.Str.ofString "0")))) (.slot 6) oPlus)) (.tmp (pure (.str (PySem.Str.ofString ":1")))) oPlus) (consM (ev2 (.tmp (ev2 (.slot 6) (.tmp (pure (.str (PySem.Str.ofString ":0")))) oPlus)) (.slot 7) oPlus) (consM (pure (.str (PySem.Str.ofString ""))) (consM (ev2 (.slot 6) (.tmp (pure (.str (PySem.Str.ofString ":1,,")))) oPlus) (consM (ev2 (.tmp (ev2 (.slot 6) (.tmp (pure (.str (PySem.Str.ofString ",")))) oPlus)) (.slot 7) oPlus) (pure []))))))))))) (envN s j A B x5 x y g r) = .ok (strsD true (lw4 x y g)) (envN s j A B x5 x y g r) := by
  have px : (envN s j A B x5 x y g r)[6]? = some (some (.str x)) := rfl
  have py : (envN s j A B x5 x y g r)[7]? = some (some (.str y)) := rfl
  have pg : (envN s j A B x5 x y g r)[3]? = some (some (.str g)) := rfl
  exact LE.lst ((LE.cons (SE.ts (n := 40) (SE.c (n := 10) (by decide +kernel)) px lx)
      (LE.cons (SE.st (m := 40) px lx (SE.c (n := 10) (by decide +kernel)))
      (LE.cons (SE.ts (n := 40) (SE.c (n := 10) (by decide +kernel)) px lx)
      (LE.cons (SE.tt (SE.ts (n := 40) (SE.c (n := 10) (by decide +kernel)) px lx) (SE.c (n := 10) (by decide +kernel)))
      (LE.cons (SE.tt (SE.ts (n := 40) (SE.c (n := 10) (by decide +kernel)) px lx) (SE.c (n := 10) (by decide +kernel)))
      (LE.cons (SE.ts (n := 40) (SE.st (m := 40) px lx (SE.c (n := 10) (by decide +kernel))) py ly)
      (LE.cons (SE.c (n := 10) (by decide +kernel))
      (LE.cons (SE.st (m := 40) px lx (SE.c (n := 10) (by decide +kernel)))
      (LE.cons (SE.ts (n := 40) (SE.st (m := 40) px lx (SE.c (n := 10) (by decide +kernel))) py ly)
      LE.nil)))))))))) (by simp)
abbrev lw5 (x y g : Str) : List Str := [((x ++ (PySem.Str.ofString ":")) ++ g), ((x ++ (PySem.Str.ofString ":-0")) ++ y), (x ++ (PySem.Str.ofString ":-")), ((x ++ (PySem.Str.ofString ":1,")) ++ y)]
theorem made5 {r : Option D} (lx : x.length ≤ 40) (ly : y.length ≤ 40) (lg : g.length ≤ 41) : (lstM (consM (ev2 (.tmp (ev2 (.slot 6) (.tmp (pure (.str (PySem.Str.ofString ":")))) oPlus)) (.slot 3) oPlus) (consM (ev2 (.tmp (ev2 (.slot 6) (.tmp (pure (.str (PySem.Str.ofString ":-0")))) oPlus)) (.slot 7) oPlus) (consM (ev2 (.slot 6) (.tmp (pure (.str (PySem.Str.ofString ":-")))) oPlus) (consM (ev2 (.tmp (ev2 (.slot 6) (.tmp (pure (.str (PySem.Str.ofString ":1,")))) oPlus)) (.slot 7) oPlus) (pure [])))))) (envN s j A B x5 x y g r) = .ok (strsD true (lw5 x y g)) (envN s j A B x5 x y g r) := by
  have px : (envN s j A B x5 x y g r)[6]? = some (some (.str x)) := rfl
  have py : (envN s j A B x5 x y g r)[7]? = some (some (.str y)) := rfl
  have pg : (envN s j A B x5 x y g r)[3]? = some (some (.str g)) := rfl
  exact LE.lst ((LE.cons (SE.ts (n := 41) (SE.st (m := 40) px lx (SE.c (n := 10) (by decide +kernel))) pg lg)
      (LE.cons (SE.ts (n := 40) (SE.st (m := 40) px lx (SE.c (n := 10) (by decide +kernel))) py ly)
      (LE.cons (SE.st (m := 40) px lx (SE.c (n := 10) (by decide +kernel)))
      (LE.cons (SE.ts (n := 40) (SE.st (m := 40) px lx (SE.c (n := 10) (by decide +kernel))) py ly)
      LE.nil))))) (by simp)
abbrev lw6 (x y g : Str) : List Str := [(x ++ (PySem.Str.ofString ">")), ((PySem.Str.ofString ">") ++ x), ((x ++ (PySem.Str.ofString ">>")) ++ y), (PySem.Str.ofString ""), ((x ++ (PySem.Str.ofString ",")) ++ y), ((((PySem.Str.ofString "0") ++ x) ++ (PySem.Str.ofString ">")) ++ y), ((x ++ (PySem.Str.ofString ">-")) ++ y), ((PySem.Str.ofString "-") ++ x), (PySem.Str.ofString "-0"), (PySem.Str.ofString "00"), ((PySem.Str.ofString "->") ++ x)]
theorem made6 {r : Option D} (lx : x.length ≤ 40) (ly : y.length ≤ 40) (lg : g.length ≤ 41) : (lstM (consM (ev2 (.slot 6) (.tmp (pure (.str (PySem.Str.ofString ">")))) oPlus) (consM (ev2 (.tmp (pure (.str (PySem.Str.ofString ">")))) (.slot 6) oPlus) (consM (ev2 (.tmp (ev2 (.slot 6) (.tmp (pure (.str (PySem.Str.ofString ">>")))) oPlus)) (.slot 7) oPlus) (consM (pure (.str (PySem.Str.ofString ""))) (consM (ev2 (.tmp (ev2 (.slot 6) (.tmp (pure (.str (PySem.Str.ofString ",")))) oPlus)) (.slot 7) oPlus) (consM (ev2 (.tmp (ev2 (.tmp (ev2 (.tmp (pure (.str (PySem.Str.ofString "0")))) (.slot 6) oPlus)) (.tmp (pure (.str (PySem.Str.ofString ">")))) oPlus)) (.slot 7) oPlus) (consM (ev2 (.tmp (ev2 (.slot 6) (.tmp (pure (.str (PySem.Str.ofString ">-")))) oPlus)) (.slot 7) oPlus) (consM (ev2 (.tmp (pure (.str (PySem.Str.ofString "-")))) (.slot 6) oPlus) (consM (pure (.str (PySem.Str.ofString "-0"))) (consM (pure (.str (PySem.Str.ofString "00"))) (consM (ev2 (.tmp (pure (.str (PySem.Str.ofString "->")))) (.slot 6) oPlus) (pure []))))))))))))) (envN s j A B x5 x y g r) = .ok (strsD true (lw6 x y g)) (envN s j A B x5 x y g r) := by
  have px : (envN s j A B x5 x y g r)[6]? = some (some (.str x)) := rfl
  have py : (envN s j A B x5 x y g r)[7]? = some (some (.str y)) := rfl
  have pg : (envN s j A B x5 x y g r)[3]? = some (some (.str g)) := rfl
  exact LE.lst ((LE.cons (SE.st (m := 40) px lx (SE.c (n := 10) (by decide +kernel)))
      (LE.cons (SE.ts (n := 40) (SE.c (n := 10) (by decide +kernel)) px lx)
      (LE.cons (SE.ts (n := 40) (SE.st (m := 40) px lx (SE.c (n := 10) (by decide +kernel))) py ly)
      (LE.cons (SE.c (n := 10) (by decide +kernel))
      (LE.cons (SE.ts (n := 40) (SE.st (m := 40) px lx (SE.c (n := 10) (by decide +kernel))) py ly)
      (LE.cons (SE.ts (n := 40) (SE.tt (SE.ts (n := 40) (SE.c (n := 10) (by decide +kernel)) px lx) (SE.c (n := 10) (by decide +kernel))) py ly)
      (LE.cons (SE.ts (n := 40) (SE.st (m := 40) px lx (SE.c (n := 10) (by decide +kernel))) py ly)
      (LE.cons (SE.ts (n := 40) (SE.c (n := 10) (by decide +kernel)) px lx)
      (LE.cons (SE.c (n := 10) (by decide +kernel))
      (LE.cons (SE.c (n := 10) (by decide +kernel))
      (LE.cons (SE.ts (n := 40) (SE.c (n := 10) (by decide +kernel)) px lx)
      LE.nil)))))))))))) (by simp)
abbrev lw7 (x y g : Str) : List Str := [((x ++ (PySem.Str.ofString ":")) ++ y), (PySem.Str.ofString ">"), ((x ++ (PySem.Str.ofString ">")) ++ g)]
theorem made7 {r : Option D} (lx : x.length ≤ 40) (ly : y.length ≤ 40) (lg : g.length ≤ 41) : (lstM (consM (ev2 (.tmp (ev2 (.slot 6) (.tmp (pure (.str (PySem.Str.ofString ":")))) oPlus)) (.slot 7) oPlus) (consM (pure (.str (PySem.Str.ofString ">"))) (consM (ev2 (.tmp (ev2 (.slot 6) (.tmp (pure (.str (PySem.Str.ofString ">")))) oPlus)) (.slot 3) oPlus) (pure []))))) (envN s j A B x5 x y g r) = .ok (strsD true (lw7 x y g)) (envN s j A B x5 x y g r) := by
  have px : (envN s j A B x5 x y g r)[6]? = some (some (.str x)) := rfl
  have py : (envN s j A B x5 x y g r)[7]? = some (some (.str y)) := rfl
  have pg : (envN s j A B x5 x y g r)[3]? = some (some (.str g)) := rfl
  exact LE.lst ((LE.cons (SE.ts (n := 40) (SE.st (m := 40) px lx (SE.c (n := 10) (by decide +kernel))) py ly)
      (LE.cons (SE.c (n := 10) (by decide +kernel))
      (LE.cons (SE.ts (n := 41) (SE.st (m := 40) px lx (SE.c (n := 10) (by decide +kernel))) pg lg)
      LE.nil)))) (by simp)
theorem made0 (lx : x.length ≤ 40) (ly : y.length ≤ 40) (lg : g.length ≤ 41) : (lstM (consM (ev2 (.tmp (pure (.str (PySem.Str.ofString "0")))) (.slot 6) oPlus) (consM (pure (.str (PySem.Str.ofString "00"))) (consM (pure (.str (PySem.Str.ofString "-0"))) (consM (ev2 (.tmp (pure (.str (PySem.Str.ofString "-")))) (.slot 6) oPlus) (consM (pure (.str (PySem.Str.ofString ""))) (consM (ev2 (.tmp (ev2 (.slot 6) (.tmp (pure (.str (PySem.Str.ofString ",")))) oPlus)) (.slot 7) oPlus) (consM (ev2 (.tmp (ev2 (.slot 6) (.tmp (pure (.str (PySem.Str.ofString ":")))) oPlus)) (.slot 7) oPlus) (consM (pure (.str (PySem.Str.ofString "a"))) (consM (ev2 (.slot 6) (.tmp (pure (.str (PySem.Str.ofString "a")))) oPlus) (consM (pure (.str (PySem.Str.ofString "-"))) (consM (ev2 (.tmp (ev2 (.slot 6) (.tmp (pure (.str (PySem.Str.ofString ">")))) oPlus)) (.slot 7) oPlus) (consM (mvv 3) (pure [])))))))))))))) (envN s j A B x5 x y g none) = .ok (strsD true (ws0 x y g)) [some s, some (.int j), A, none, B, x5, some (.str x), some (.str y), none] := by
  have px : (envN s j A B x5 x y g none)[6]? = some (some (.str x)) := rfl
  have py : (envN s j A B x5 x y g none)[7]? = some (some (.str y)) := rfl
  exact LEx.lst ((LEx.cons (SE.ts (n := 40) (SE.c (n := 10) (by decide +kernel)) px lx)
      (LEx.cons (SE.c (n := 10) (by decide +kernel))
      (LEx.cons (SE.c (n := 10) (by decide +kernel))
      (LEx.cons (SE.ts (n := 40) (SE.c (n := 10) (by decide +kernel)) px lx)
      (LEx.cons (SE.c (n := 10) (by decide +kernel))
      (LEx.cons (SE.ts (n := 40) (SE.st (m := 40) px lx (SE.c (n := 10) (by decide +kernel))) py ly)
      (LEx.cons (SE.ts (n := 40) (SE.st (m := 40) px lx (SE.c (n := 10) (by decide +kernel))) py ly)
      (LEx.cons (SE.c (n := 10) (by decide +kernel))
      (LEx.cons (SE.st (m := 40) px lx (SE.c (n := 10) (by decide +kernel)))
      (LEx.cons (SE.c (n := 10) (by decide +kernel))
      (LEx.cons (SE.ts (n := 40) (SE.st (m := 40) px lx (SE.c (n := 10) (by decide +kernel))) py ly)
      (LEx.last rfl))))))))))))) (by simp)
end
end K01
end
section
set_option Elab.async false
set_option linter.all false
set_option maxRecDepth 100000
set_option maxHeartbeats 4000000
namespace K01
open PySem PySem.Spec PyProof.Rows L2 Mir MS
theorem call_one {L : M D} {ρ ρ1 : Mir.Env} {ws : List Str} {s : D} (eL : L ρ = .ok (strsD true ws) ρ1) (h0 : ρ[0]? = some (some s)) (h1 : ρ1[0]? = some (some s)) (hs : IsS s) (hne : ws ≠ []) (hn : ws.length ≤ 1000) :
    ∃ w s', w ∈ ws ∧ IsS s' ∧ isx s' = false ∧ retM (callM m__law_one [.slot 0, .tmp L]) ρ = .ok (.rt (.str w)) (ρ1.set 0 (some s')) := by
  obtain ⟨w, s', a, b, c, e⟩ := one hs (o := true) hne hn
  refine ⟨w, s', a, b, c, ?_⟩
  generalize strsD true ws = d at eL e
  obtain ⟨f, hf⟩ : ∃ f, f = m__law_one := ⟨_, rfl⟩
  rw [← hf] at e ⊢
  have hlt : 0 < (ρ1.set 0 none).length := by rw [List.length_set]; exact ltE h1
  rw [retM_app, callM_app, evArgs_slot, peek_app h0, bnd_ok, evArgs_tmp, eL, bnd_ok, evArgs_nil, bnd_ok, bnd_ok, bnd_ok, lendOut_slot, peek_app h1, bnd_ok, lendOut_tmp, lendOut_nil, bnd_ok, bnd_ok, bnd_ok, e]
  simp only [noX_lend, lendIn_slot, stv_app hlt c, bnd_ok, lendIn_tmp, lendIn_nil, List.set_set]
theorem app8 {L : M D} {s : D} {j : Int} {A B x5 : Option D} {x y g : Str} {a b : List Str} (eL : L (envN s j A B x5 x y g (some (strsD true a))) = .ok (strsD true b) (envN s j A B x5 x y g (some (strsD true a)))) (h : a.length + b.length ≤ 1000) :
    ev2 (.slot 8) (.tmp L) oPlus (envN s j A B x5 x y g (some (strsD true a))) = .ok (strsD true (a ++ b)) (envN s j A B x5 x y g (some (strsD true a))) := by
  have h8 : (envN s j A B x5 x y g (some (strsD true a)))[8]? = some (some (strsD true a)) := rfl
  have e := oPlus_strs (o := true) (u := true) h
  rw [ev2_st h8, eL, bnd_ok, peek_app h8, bnd_ok, e]
  simp only [setq_app (show isx (strsD true a) = false from rfl), bnd_ok]
  rfl
theorem row8 {L : M D} {s : D} {j : Int} {A B x5 r : Option D} {x y g : Str} {a : List Str} (eL : L (envN s j A B x5 x y g r) = .ok (strsD true a) (envN s j A B x5 x y g r)) :
    asgM L (stv 8) (envN s j A B x5 x y g r) = .ok .nx (envN s j A B x5 x y g (some (strsD true a))) := by
  rw [asgM_app, eL, bnd_ok, noX_stv, stv_app (by simp) rfl]
  rfl
theorem kind_no {s : D} {j k : Int} {A B x5 r : Option D} {x y g : Str} (h : j ≠ k) {a : M Flw} : ifM (asB (ev2 (.slot 1) (.tmp (pure (.int k))) oEq)) a (pure .nx) (envN s j A B x5 x y g r) = .ok .nx (envN s j A B x5 x y g r) := by
  simp [h]
theorem kind_yes {s : D} {k : Int} {A B x5 r : Option D} {x y g : Str} {a b : M Flw} : ifM (asB (ev2 (.slot 1) (.tmp (pure (.int k))) oEq)) a b (envN s k A B x5 x y g r) = a (envN s k A B x5 x y g r) := by
  rw [ifM_app]
  simp only [asB_app, ev2_st_def, peek_def, List.getElem?_cons_zero, List.getElem?_cons_succ, bnd_ok, pure_app, oEq_ii, setq_def, isx_int, decide_true, if_true, Bool.false_eq_true, if_false, List.set_cons_zero, List.set_cons_succ]
theorem nearly {s : D} (hs : IsS s) {j : Int} (hj : 0 ≤ j ∧ j < 4) : ∃ w s', Fine w ∧ resR j (cl w) = none ∧ IsS s' ∧ isx s' = false ∧ m__law_a_nearly [s, .int j] = .ok (.str w) [s', .non] := by
  have hx0 := isS_isx hs
  obtain ⟨s1, x, y, g, ρ, ⟨hs1, ⟨a, b, hxy⟩, A, B, x5, rfl⟩, run⟩ := near_start hs j
  obtain ⟨⟨lx, ly, lg⟩, _⟩ := hxy.small
  rw [cl_len] at lx ly lg
  have fin : ∀ {w : Str} {ρ' : Mir.Env} {s' : D}, (∀ rest : M Flw, rest (envN s1 j A B x5 x y g none) = .ok (.rt (.str w)) ρ' → True) → True := fun _ => trivial
  have hc : j = 0 ∨ j = 1 ∨ j = 2 ∨ j = 3 := by omega
  rcases hc with rfl | rfl | rfl | rfl
  · obtain ⟨w, s', hw, hs', hx', e⟩ := call_one (made0 (s := s1) (j := 0) (A := A) (B := B) (x5 := x5) lx ly lg) rfl rfl hs1 (by simp) (by simp)
    obtain ⟨f1, f2⟩ := bad0 hxy w hw
    refine ⟨w, s', f1, f2, hs', hx', def_rt (run _ _ (seq_ret (kind_yes.trans e))) (by simp [outsOf]) rfl (by simp [hx0])⟩
  · have m1 := made1 (s := s1) (j := 1) (A := A) (B := B) (x5 := x5) (r := none) lx ly lg
    have r1 := row8 m1
    have m2 := made2 (s := s1) (j := 1) (A := A) (B := B) (x5 := x5) (r := some (strsD true (lw1 x y g))) lx ly lg
    have r2 := app8 m2 (by simp)
    obtain ⟨w, s', hw, hs', hx', e⟩ := call_one r2 rfl rfl hs1 (by simp) (by simp)
    obtain ⟨f1, f2⟩ := bad1 hxy w hw
    refine ⟨w, s', f1, f2, hs', hx', def_rt (run _ _ (seq_step (kind_no (by decide)) (seq_ret (kind_yes.trans (seq_step r1 e))))) (by simp [outsOf]) rfl (by simp [hx0])⟩
  · have m1 := made3 (s := s1) (j := 2) (A := A) (B := B) (x5 := x5) (r := none) lx ly lg
    have r1 := row8 m1
    have m2 := made4 (s := s1) (j := 2) (A := A) (B := B) (x5 := x5) (r := some (strsD true (lw3 x y g))) lx ly lg
    have r2 := row8 (app8 m2 (by simp))
    have m3 := made5 (s := s1) (j := 2) (A := A) (B := B) (x5 := x5) (r := some (strsD true (lw3 x y g ++ lw4 x y g))) lx ly lg
    have r3 := app8 m3 (by simp)
    obtain ⟨w, s', hw, hs', hx', e⟩ := call_one r3 rfl rfl hs1 (by simp) (by simp)
    obtain ⟨f1, f2⟩ := bad2 hxy w hw
    refine ⟨w, s', f1, f2, hs', hx', def_rt (run _ _ (seq_step (kind_no (by decide)) (seq_step (kind_no (by decide)) (seq_ret (kind_yes.trans (seq_step r1 (seq_step r2 e))))))) (by simp [outsOf]) rfl (by simp [hx0])⟩
  · have m1 := made6 (s := s1) (j := 3) (A := A) (B := B) (x5 := x5) (r := none) lx ly lg
    have r1 := row8 m1
    have m2 := made7 (s := s1) (j := 3) (A := A) (B := B) (x5 := x5) (r := some (strsD true (lw6 x y g))) lx ly lg
    have r2 := app8 m2 (by simp)
    obtain ⟨w, s', hw, hs', hx', e⟩ := call_one r2 rfl rfl hs1 (by simp) (by simp)
    obtain ⟨f1, f2⟩ := bad3 hxy w hw
    refine ⟨w, s', f1, f2, hs', hx', def_rt (run _ _ (seq_step (kind_no (by decide)) (seq_step (kind_no (by decide)) (seq_step (kind_no (by decide)) (seq_step r1 e))))) (by simp [outsOf]) rfl (by simp [hx0])⟩
end K01
end
section
set_option Elab.async false
set_option linter.all false
set_option maxRecDepth 100000
set_option maxHeartbeats 4000000
namespace K01
open PySem PySem.Spec PyProof.Rows L2 Mir MS
abbrev unp (i j : Nat) : D → M Unit := fun d => match d with | .tup ds => (if ds.length = 2 then (fun ds => match ds with | d :: r => (do (stv i) d; (fun ds => match ds with | d :: r => (do (stv j) d; (fun ds => match ds with | [] => pure () | _ => badM) r) | [] => badM) r) | [] => badM) ds else badM) | _ => badM
theorem unp_ok {f : M D} {i j : Nat} {ρ ρ1 : Mir.Env} {a b : D} (e : f ρ = .ok (.tup [a, b]) ρ1) (hi : i < ρ1.length) (hj : j < ρ1.length) (ha : isx a = false) (hb : isx b = false) : asgM f (unp i j) ρ = .ok .nx ((ρ1.set i (some a)).set j (some b)) := by
  have eu : unp i j (.tup [a, b]) ρ1 = .ok () ((ρ1.set i (some a)).set j (some b)) := by
    show ((stv i a >>= fun _ => (stv j b >>= fun _ => (pure () : M Unit))) : M Unit) ρ1 = _
    rw [bind_app, stv_app hi ha, bnd_ok, bind_app, stv_app (by rw [List.length_set]; exact hj) hb, bnd_ok]
    rfl
  rw [asgM_app, e, bnd_ok, noX_app, eu]
  rfl
section
variable {s d due : D} {j k : Int} {w : Str} {x0 x2 x3 x4 x5 x6 x7 x8 : Option D}
theorem chk_ok {f : List D → FRes} (e : f [d, due] = .ok (.bl true) [d, due]) (hd : isx d = false) (hu : isx due = false) :
    ifM (orT (asB (ev2 (.slot 7) (.tmp (pure .non)) oIsNot)) (notT (evT (.tmp (callM f [.slot 6, .slot 4]))))) (retM (pure (.bl false))) (pure .nx)
      [x0, some s, x2, x3, some due, x5, some d, some .non, x8] = .ok .nx [x0, some s, x2, x3, some due, x5, some d, some .non, x8] := by
  simp [e, hd, hu]
theorem chk_bad {f : List D → FRes} (e : f [faultD k, faultD k] = .ok (.bl true) [faultD k, faultD k]) :
    ifM (orT (asB (ev2 (.slot 6) (.tmp (pure .non)) oIsNot)) (notT (evT (.tmp (callM f [.slot 7, .tmp (tupM (consM (pure (.str (PySem.Str.ofString "BadText"))) (consM (rdv 3) (pure []))))]))))) (retM (pure (.bl false))) (pure .nx)
      [x0, some s, x2, some (.int k), x4, x5, some .non, some (faultD k), x8] = .ok .nx [x0, some s, x2, some (.int k), x4, x5, some .non, some (faultD k), x8] := by
  simp [e, sizeL]
theorem rd_call {f : List D → FRes} {r : D} (e : f [.int j, .str w, .int k] = .ok r [.non, .non, .non]) :
    callM f [.tmp (rdv 2), .tmp (rdv 5), .tmp (rdv 3)] [x0, some s, some (.int j), some (.int k), x4, some (.str w), x6, x7, x8] = .ok r [x0, some s, some (.int j), some (.int k), x4, some (.str w), x6, x7, x8] := by
  simp [e]
theorem rd_call8 {f : List D → FRes} {r : D} (e : f [.int j, .str w, .int k] = .ok r [.non, .non, .non]) :
    callM f [.tmp (rdv 2), .tmp (mvv 8), .tmp (rdv 3)] [x0, some s, some (.int j), some (.int k), x4, x5, x6, x7, some (.str w)] = .ok r [x0, some s, some (.int j), some (.int k), x4, x5, x6, x7, none] := by
  simp [e]
theorem rd_call9 {f : List D → FRes} {r : D} (e : f [.int j, .str w, .int k] = .ok r [.non, .non, .non]) :
    callM f [.tmp (rdv 2), .tmp (mvv 5), .tmp (mvv 3)] [x0, some s, some (.int j), some (.int k), x4, some (.str w), x6, x7, x8] = .ok r [x0, some s, some (.int j), none, x4, none, x6, x7, x8] := by
  simp [e]
theorem two_call {f : List D → FRes} {r s' : D} (e : f [s, .int j] = .ok r [s', .non]) (hx : isx s' = false) :
    callM f [.slot 1, .tmp (rdv 2)] [x0, some s, some (.int j), x3, x4, x5, x6, x7, x8] = .ok r [x0, some s', some (.int j), x3, x4, x5, x6, x7, x8] := by
  simp [e, hx]
theorem app7 {xs : List D} (h : xs.length ≤ 1000) : dropM (appM 6 (pure (.int 7))) [x0, some s, x2, x3, x4, x5, some (.lst true xs), x7, x8] = .ok .nx [x0, some s, x2, x3, x4, x5, some (.lst true (xs ++ [.int 7])), x7, x8] := by
  have : xs.length < sizeLine := by rw [sizeL]; omega
  simp [this]
end
abbrev lawBody : M Flw := (seqM (asgM (ev2 (.tmp (pure (.int 1))) (.tmp (callM m__law_pick [.slot 1, .tmp (ev2 (.tmp (pure (.int 10))) (.tmp (pure (.int 6))) oPow)])) oPlus) (stv 3))
    (seqM (asgM (callM m__law_a_right [.slot 1, .tmp (rdv 2)]) (unp 4 5))
    (seqM (asgM (callM m__law_a_read [.tmp (rdv 2), .tmp (rdv 5), .tmp (rdv 3)]) (unp 6 7))
    (seqM (ifM (orT (asB (ev2 (.slot 7) (.tmp (pure .non)) oIsNot)) (notT (evT (.tmp (callM (m__law_same 3) [.slot 6, .slot 4])))))
    (retM (pure (.bl false)))
    (pure .nx))
    (seqM (ifM (asB (ev2 (.slot 2) (.tmp (pure (.int 0))) oGt))
    (dropM (appM 6 (pure (.int 7))))
    (pure .nx))
    (seqM (asgM (callM m__law_a_nearly [.slot 1, .tmp (rdv 2)]) (stv 8))
    (seqM (asgM (callM m__law_a_read [.tmp (rdv 2), .tmp (mvv 8), .tmp (rdv 3)]) (unp 6 7))
    (seqM (ifM (orT (asB (ev2 (.slot 6) (.tmp (pure .non)) oIsNot)) (notT (evT (.tmp (callM (m__law_same 3) [.slot 7, .tmp (tupM (consM (pure (.str (PySem.Str.ofString "BadText"))) (consM (rdv 3) (pure []))))])))))
    (retM (pure (.bl false)))
    (pure .nx))
    (seqM (asgM (callM m__law_a_read [.tmp (rdv 2), .tmp (mvv 5), .tmp (mvv 3)]) (unp 6 7))
    (ifM (orT (asB (ev2 (.slot 7) (.tmp (pure .non)) oIsNot)) (notT (evT (.tmp (callM (m__law_same 3) [.slot 6, .slot 4])))))
    (retM (pure (.bl false)))
    (pure .nx)))))))))))
theorem law_turn {s : D} (hs : IsS s) {j : Int} (hj : 0 ≤ j ∧ j < 4) (x3 x4 x5 x6 x7 x8 : Option D) : ∃ s' y3 y4 y5 y6 y7 y8, IsS s' ∧ lawBody [none, some s, some (.int j), x3, x4, x5, x6, x7, x8] = .ok .nx [none, some s', some (.int j), y3, y4, y5, y6, y7, y8] := by
  obtain ⟨k, s1, hs1, hk0, hk, hx1, e1⟩ := pick hs 1000000 (by omega) (by omega)
  obtain ⟨due, w, s2, ⟨hw, hxd, d, hd, hdx, hsame, happ⟩, hs2, hx2, e2⟩ := right hs1 hj
  obtain ⟨v, s3, hv, hbad, hs3, hx3, e3⟩ := nearly hs2 hj
  have rw1 := read_is hw j (1 + k)
  have rv1 := read_is hv j (1 + k)
  rw [hd] at rw1
  rw [hbad] at rv1
  have sf := same_fault (k := 1 + k)
  obtain ⟨d2, hd2, e5⟩ : ∃ d2, isx d2 = false ∧ ifM (asB (ev2 (.slot 2) (.tmp (pure (.int 0))) oGt)) (dropM (appM 6 (pure (.int 7)))) (pure .nx) [none, some s2, some (.int j), some (.int (1 + k)), some due, some (.str w), some d, some .non, x8] =
      .ok .nx [none, some s2, some (.int j), some (.int (1 + k)), some due, some (.str w), some d2, some .non, x8] := by
    by_cases c : j = 0
    · subst c
      exact ⟨d, hdx, by simp⟩
    · obtain ⟨xs, rfl, hl⟩ := happ c
      have c' : 0 < j := by omega
      have ea := app7 (s := s2) (x0 := none) (x2 := some (.int j)) (x3 := some (.int (1 + k))) (x4 := some due) (x5 := some (.str w)) (x7 := some .non) (x8 := x8) hl
      refine ⟨.lst true (xs ++ [.int 7]), rfl, ?_⟩
      rw [ifM_app]
      simp only [asB_app, ev2_st_def, peek_def, List.getElem?_cons_zero, List.getElem?_cons_succ, bnd_ok, pure_app, oGt_ii, setq_def, isx_int, c', decide_true, if_true, Bool.false_eq_true, if_false, List.set_cons_zero, List.set_cons_succ]
      exact ea
  have st1 : asgM (ev2 (.tmp (pure (.int 1))) (.tmp (callM m__law_pick [.slot 1, .tmp (ev2 (.tmp (pure (.int 10))) (.tmp (pure (.int 6))) oPow)])) oPlus) (stv 3) [none, some s, some (.int j), x3, x4, x5, x6, x7, x8] = .ok .nx [none, some s1, some (.int j), some (.int (1 + k)), x4, x5, x6, x7, x8] := by
    obtain ⟨f, hf⟩ : ∃ f, f = m__law_pick := ⟨_, rfl⟩
    rw [← hf] at e1 ⊢
    simp [pow6, e1, hx1]
  refine ⟨s3, none, some due, none, some d, some .non, none, hs3, ?_⟩
  refine seq_step st1 ?_
  refine seq_step (unp_ok (i := 4) (j := 5) (two_call e2 hx2) (by simp) (by simp) hxd rfl) ?_
  refine seq_step (unp_ok (i := 6) (j := 7) (rd_call rw1) (by simp) (by simp) hdx rfl) ?_
  refine seq_step (chk_ok hsame hdx hxd) ?_
  refine seq_step e5 ?_
  refine seq_step (asg_ok (i := 8) (two_call e3 hx3) (by simp) rfl) ?_
  refine seq_step (unp_ok (i := 6) (j := 7) (rd_call8 rv1) (by simp) (by simp) rfl rfl) ?_
  refine seq_step (chk_bad sf) ?_
  refine seq_step (unp_ok (i := 6) (j := 7) (rd_call9 rw1) (by simp) (by simp) hdx rfl) ?_
  exact chk_ok hsame hdx hxd
theorem law_loop (m : Nat) : ∀ (lo : Int) (s : D) (x2 x3 x4 x5 x6 x7 x8 : Option D), IsS s → 0 ≤ lo → lo + m ≤ 4 → ∃ s' y2 y3 y4 y5 y6 y7 y8, IsS s' ∧ loopM (stv 2) lawBody (rangeD lo m) [none, some s, x2, x3, x4, x5, x6, x7, x8] = .ok .nx [none, some s', y2, y3, y4, y5, y6, y7, y8] := by
  induction m with
  | zero => exact fun lo s x2 x3 x4 x5 x6 x7 x8 hs _ _ => ⟨s, x2, x3, x4, x5, x6, x7, x8, hs, by rw [rangeD_zero]; rfl⟩
  | succ m ih =>
    intro lo s x2 x3 x4 x5 x6 x7 x8 hs h0 h1
    obtain ⟨s1, y3, y4, y5, y6, y7, y8, hs1, e1⟩ := law_turn hs (j := lo) ⟨h0, by omega⟩ x3 x4 x5 x6 x7 x8
    obtain ⟨s2, z2, z3, z4, z5, z6, z7, z8, hs2, e2⟩ := ih (lo + 1) s1 (some (.int lo)) y3 y4 y5 y6 y7 y8 hs1 (by omega) (by omega)
    refine ⟨s2, z2, z3, z4, z5, z6, z7, z8, hs2, ?_⟩
    rw [rangeD_succ, loopM_cons]
    have et : noX (stv 2 (D.int lo)) [none, some s, x2, x3, x4, x5, x6, x7, x8] = .ok () [none, some s, some (.int lo), x3, x4, x5, x6, x7, x8] := by simp
    rw [et, bnd_ok, e1]
    exact e2
abbrev dashBody : M Flw := (seqM (asgM (callM m__law_a_read [.tmp (mvv 2), .tmp (pure (.str (PySem.Str.ofString "-"))), .tmp (pure (.int 1))]) (unp 6 7))
    (ifM (orT (asB (ev2 (.slot 7) (.tmp (pure .non)) oIsNot)) (notT (evT (.tmp (callM (m__law_same 3) [.slot 6, .tmp (lstM (pure []))])))))
    (retM (pure (.bl false)))
    (pure .nx)))
theorem dash_fine : Fine (PySem.Str.ofString "-") := by
  have e : cl (PySem.Str.ofString "-") = [45] := by decide +kernel
  exact ⟨by rw [← cl_len, e]; simp, fun c hc => by rw [e] at hc; simp at hc; omega⟩
theorem dash_turn {s : D} {j : Int} (hj : 1 ≤ j ∧ j < 4) (x3 x4 x5 x6 x7 x8 : Option D) : ∃ y6 y7, dashBody [none, some s, some (.int j), x3, x4, x5, x6, x7, x8] = .ok .nx [none, some s, none, x3, x4, x5, y6, y7, x8] := by
  have e : cl (PySem.Str.ofString "-") = [45] := by decide +kernel
  have r := read_is dash_fine j 1
  have q : resR j (cl (PySem.Str.ofString "-")) = some (.lst true []) := by
    rw [e]
    have hc : j = 1 ∨ j = 2 ∨ j = 3 := by omega
    rcases hc with rfl | rfl | rfl <;> rfl
  rw [q] at r
  have es : m__law_same 3 [.lst true [], .lst true []] = .ok (.bl true) [.lst true [], .lst true []] := same_ints (o := true) (o' := true) (ns := []) (by simp)
  refine ⟨some (.lst true []), some .non, ?_⟩
  have ec : callM m__law_a_read [.tmp (mvv 2), .tmp (pure (.str (PySem.Str.ofString "-"))), .tmp (pure (.int 1))] [none, some s, some (.int j), x3, x4, x5, x6, x7, x8] = .ok (.tup [.lst true [], .non]) [none, some s, none, x3, x4, x5, x6, x7, x8] := by
    obtain ⟨f, hf⟩ : ∃ f, f = m__law_a_read := ⟨_, rfl⟩
    rw [← hf] at r ⊢
    simp [r]
  refine seq_step (unp_ok (i := 6) (j := 7) ec (by simp) (by simp) rfl rfl) ?_
  obtain ⟨f, hf⟩ : ∃ f, f = m__law_same 3 := ⟨_, rfl⟩
  rw [← hf] at es ⊢
  simp [es, sizeL]
theorem dash_loop (m : Nat) : ∀ (lo : Int) (s : D) (x2 x3 x4 x5 x6 x7 x8 : Option D), 1 ≤ lo → lo + m ≤ 4 → ∃ y2 y6 y7, loopM (stv 2) dashBody (rangeD lo m) [none, some s, x2, x3, x4, x5, x6, x7, x8] = .ok .nx [none, some s, y2, x3, x4, x5, y6, y7, x8] := by
  induction m with
  | zero => exact fun lo s x2 x3 x4 x5 x6 x7 x8 _ _ => ⟨x2, x6, x7, by rw [rangeD_zero]; rfl⟩
  | succ m ih =>
    intro lo s x2 x3 x4 x5 x6 x7 x8 h0 h1
    obtain ⟨y6, y7, e1⟩ := dash_turn (s := s) (j := lo) ⟨h0, by omega⟩ x3 x4 x5 x6 x7 x8
    obtain ⟨z2, z6, z7, e2⟩ := ih (lo + 1) s none x3 x4 x5 y6 y7 x8 (by omega) (by omega)
    refine ⟨z2, z6, z7, ?_⟩
    rw [rangeD_succ, loopM_cons]
    have et : noX (stv 2 (D.int lo)) [none, some s, x2, x3, x4, x5, x6, x7, x8] = .ok () [none, some s, some (.int lo), x3, x4, x5, x6, x7, x8] := by simp
    rw [et, bnd_ok, e1]
    exact e2
theorem law_true (ns : List Int) (h : ns.length ≤ 63) : ∃ outs, m_law [.seq (ns.map V.int)] = .ok (.bl true) outs := by
  obtain ⟨s0, hs0, e0⟩ := source_ok ns
  obtain ⟨s1, y2, y3, y4, y5, y6, y7, y8, hs1, e1⟩ := law_loop 4 0 s0 none none none none none none none hs0 (by omega) (by omega)
  obtain ⟨z2, z6, z7, e2⟩ := dash_loop 3 1 s1 y2 y3 y4 y5 y6 y7 y8 (by omega) (by omega)
  have hx0 := isS_isx hs0
  have e0 : m__law_source [.seq (ns.map V.int), .int 0] = .ok s0 [.non, .non] := e0
  refine ⟨[.non], def_rt (ρ' := [none, some s1, z2, y3, y4, y5, z6, z7, y8]) ?_ (by simp [outsOf]) rfl (by simp)⟩
  refine seq_step (ρ1 := [none, some s0, none, none, none, none, none, none, none]) ?_ ?_
  · obtain ⟨f, hf⟩ : ∃ f, f = m__law_source := ⟨_, rfl⟩
    rw [← hf] at e0 ⊢
    simp [Mir.envOf, e0, hx0]
  have h4 : Mir.inR 4 = true := by decide
  have h1 : Mir.inR 1 = true := by decide
  refine seq_step (ρ1 := [none, some s1, y2, y3, y4, y5, y6, y7, y8]) ?_ ?_
  · rw [forR1_app, consM_app, pure_app, bnd_ok, pure_app, bnd_ok, bnd_ok]
    show (if Mir.inR 4 = true then _ else _) = _
    rw [if_pos h4]
    exact e1
  refine seq_step (ρ1 := [none, some s1, z2, y3, y4, y5, z6, z7, y8]) ?_ (by simp)
  have ef := forR2_app (tg := stv 2) (body := dashBody) (h := consM (pure (.int 1)) (consM (pure (.int 4)) (pure []))) (ρ := [none, some s1, y2, y3, y4, y5, y6, y7, y8]) (i := 1) (j := 4) rfl h1 h4
  exact ef.trans e2
end K01
end
section
set_option Elab.async false
set_option linter.all false
set_option maxRecDepth 100000
set_option maxHeartbeats 0
open PySem PySem.W PySem.Calls PyProof.Rows
theorem PySem.Challenge.cw_fourbells_k01_fields_read_holds : PySem.Challenge.rw_fourbells_k01_fields_read.Holds := by
  w_on; o_law
  refine HandSHeadRun.head_any (r := OpenLaw.row PySem.Challenge.rw_fourbells_k01_fields_read) (q := view (OpenLaw.row PySem.Challenge.rw_fourbells_k01_fields_read).prog [37]) (H := K01.hk) (ob := K01.ob) (M := 6000) (loose := K01.looseA) (d := HandSHeadRun.topDef (OpenLaw.row PySem.Challenge.rw_fourbells_k01_fields_read).prog 37) (kwd := []) K01.ob_eq
    (by kernel_rfl) (fun s => by kernel_rfl) K01.run (by kernel_rfl) (by kernel_rfl) (by kernel_rfl) (by rfl) (by first | assumption | decide +kernel) (by decide +kernel) ⟨rfl, rfl, rfl, rfl, rfl, by decide +kernel⟩ ?hw ?hc
  case hw => w_witness2
  case hc =>
    refine L2.walk_ofE (l := PySem.Challenge.rw_fourbells_k01_fields_read) (n := 63) (k := 6) (x := "script") (CX := Mir.CXW PySem.Challenge.pw_fourbells_k01_fields_read) rfl (by decide) (by kernel_rfl) ⟨rfl, by decide, by decide⟩ ?F (fun H s e s' => Mir.cxw_no H s e s')
    intro w mg fa h Y G hmg0
    obtain ⟨K, KX, c⟩ := Y
    have hmg : mg ("law" : PySem.Str) = some (.ref fa) := by
      have e : (HandSHeadRun.topDef (OpenLaw.row PySem.Challenge.rw_fourbells_k01_fields_read).prog 37).name = ("law" : PySem.Str) := by kernel_rfl
      rw [← e]
      exact hmg0
    have T := K01.txt_of KX G c
    exact Mir.law_end (P := PySem.Challenge.pw_fourbells_k01_fields_read) KX hmg rfl rfl T.l_law (fun _ _ _ _ _ _ us hl => match us, hl with | [_], _ => rfl) (fun base => K01.ok_law (base := base) (P := PySem.Challenge.pw_fourbells_k01_fields_read) (w := w) T) fun ns hl => K01.law_true ns hl
end
