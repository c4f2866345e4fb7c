import PyProof.Rows.All
import Wide.All
import OpenK.AllK
import Wide.FinOn
import HandS.ForMost
import HandS.ForExc
import HandS.Wide
import HandS.WideMore
import HandS.WideBits
import HandS.TupAny
import HandS.TupLe
import HandS.Style
import HandS.Flow
import HandS.IsInst
import HandS.RaiseMore
import KE.KTupSum
import HandS.CallSlots
import HandS.Zip
import HandS.Rev
import KE.GoesEnum
import KE.GoesMore
import HandS.HeadEnd
import HandS.Defaults
import HandS.ExcOwn
import PyProof.ExcBaseAll.ValueError
import HandS.HeadHook1
import HandS.Conv
import KE.KStateDown
import Lean
import HandS.Head0
import HandS.Head1
import HandS.Head2
import HandS.HeadHook2
import PySem.Challenge.RW_matchgift_k15_clauses_broken
section
set_option Elab.async false
set_option linter.all false
set_option maxRecDepth 100000
namespace G
open PySem PySem.Spec PyProof.Rows L2
inductive D where
  | non | bl (b : Bool) | int (i : Int) | str (x : Str) | lst (ds : List D) | tup (ds : List D) | dct (kvs : List (D × D)) | set (ds : List D) | obj (a : Addr)
def kD : Key → D
  | .inl i => .int i
  | .inr x => .str x
section
variable (H : Hp) (O : Addr → Prop)
mutual
def DV : D → V → Prop
  | .non, v => v = .non
  | .bl b, v => v = .bl b
  | .int i, v => v = .int i
  | .str x, v => v = .str x
  | .lst ds, v => ∃ a xs, v = .ref a ∧ ¬ O a ∧ H a = some (.lst xs) ∧ DVs ds xs
  | .tup ds, v => ∃ a xs, v = .ref a ∧ ¬ O a ∧ H a = some (.tup xs) ∧ DVs ds xs
  | .dct kvs, v => ∃ a, v = .ref a ∧ ¬ O a ∧ ((∃ ys, H a = some (.dK ys) ∧ DKs kvs ys) ∨ (∃ ys, H a = some (.dT ys) ∧ DTs kvs ys))
  | .set _, _ => False
  | .obj b, v => v = .ref b
def DVs : List D → List V → Prop
  | [], xs => xs = []
  | d :: ds, xs => ∃ x r, xs = x :: r ∧ DV d x ∧ DVs ds r
def DKs : List (D × D) → List (Key × V) → Prop
  | [], ys => ys = []
  | (k, d) :: r, ys => ∃ q x zs, ys = (q, x) :: zs ∧ k = kD q ∧ DV d x ∧ DKs r zs
def DTs : List (D × D) → List (List Key × V) → Prop
  | [], ys => ys = []
  | (k, d) :: r, ys => ∃ q x zs, ys = (q, x) :: zs ∧ k = .tup (q.map kD) ∧ DV d x ∧ DTs r zs
end
end
theorem DV_keep_aux {H H' : Hp} {O O' : Addr → Prop} (k : ∀ b o, H b = some o → ¬ O b → H' b = some o) (g : ∀ b, O' b → O b ∨ H b = none) : True := trivial
section
variable {H H' : Hp} {O O' : Addr → Prop}
theorem nO (g : ∀ b, O' b → O b ∨ H b = none) {a : Addr} {o : HO} (h : H a = some o) (n : ¬ O a) : ¬ O' a := fun z => by
  rcases g a z with q | q
  · exact n q
  · rw [h] at q; cases q
mutual
theorem DV.keep (k : ∀ b o, H b = some o → ¬ O b → H' b = some o) (g : ∀ b, O' b → O b ∨ H b = none) : ∀ (d : D) (v : V), DV H O d v → DV H' O' d v
  | .non, _, h => by unfold DV at h ⊢; exact h
  | .bl _, _, h => by unfold DV at h ⊢; exact h
  | .int _, _, h => by unfold DV at h ⊢; exact h
  | .str _, _, h => by unfold DV at h ⊢; exact h
  | .lst ds, _, h => by
    unfold DV at h ⊢
    obtain ⟨a, xs, e, n, ha, r⟩ := h
    exact ⟨a, xs, e, nO g ha n, k a _ ha n, DVs.keep k g ds xs r⟩
  | .tup ds, _, h => by
    unfold DV at h ⊢
    obtain ⟨a, xs, e, n, ha, r⟩ := h
    exact ⟨a, xs, e, nO g ha n, k a _ ha n, DVs.keep k g ds xs r⟩
  | .dct kvs, _, h => by
    unfold DV at h ⊢
    obtain ⟨a, e, n, h⟩ := h
    rcases h with ⟨ys, ha, r⟩ | ⟨ys, ha, r⟩
    · exact ⟨a, e, nO g ha n, .inl ⟨ys, k a _ ha n, DKs.keep k g kvs ys r⟩⟩
    · exact ⟨a, e, nO g ha n, .inr ⟨ys, k a _ ha n, DTs.keep k g kvs ys r⟩⟩
  | .set _, _, h => by unfold DV at h; exact h.elim
  | .obj _, _, h => by unfold DV at h ⊢; exact h
theorem DVs.keep (k : ∀ b o, H b = some o → ¬ O b → H' b = some o) (g : ∀ b, O' b → O b ∨ H b = none) : ∀ (ds : List D) (xs : List V), DVs H O ds xs → DVs H' O' ds xs
  | [], _, h => by unfold DVs at h ⊢; exact h
  | d :: ds, _, h => by
    unfold DVs at h ⊢
    obtain ⟨x, r, e, h1, h2⟩ := h
    exact ⟨x, r, e, DV.keep k g d x h1, DVs.keep k g ds r h2⟩
theorem DKs.keep (k : ∀ b o, H b = some o → ¬ O b → H' b = some o) (g : ∀ b, O' b → O b ∨ H b = none) : ∀ (ds : List (D × D)) (xs : List (Key × V)), DKs H O ds xs → DKs H' O' ds xs
  | [], _, h => by unfold DKs at h ⊢; exact h
  | (q, d) :: ds, _, h => by
    unfold DKs at h ⊢
    obtain ⟨x, y, r, e, h0, h1, h2⟩ := h
    exact ⟨x, y, r, e, h0, DV.keep k g d y h1, DKs.keep k g ds r h2⟩
theorem DTs.keep (k : ∀ b o, H b = some o → ¬ O b → H' b = some o) (g : ∀ b, O' b → O b ∨ H b = none) : ∀ (ds : List (D × D)) (xs : List (List Key × V)), DTs H O ds xs → DTs H' O' ds xs
  | [], _, h => by unfold DTs at h ⊢; exact h
  | (q, d) :: ds, _, h => by
    unfold DTs at h ⊢
    obtain ⟨x, y, r, e, h0, h1, h2⟩ := h
    exact ⟨x, y, r, e, h0, DV.keep k g d y h1, DTs.keep k g ds r h2⟩
end
end
end G
end
section
set_option Elab.async false
set_option linter.all false
set_option maxRecDepth 100000
namespace G
open PySem PySem.Spec PyProof.Rows L2
abbrev SV := L2.St
inductive Mo where
  | sh | ow | bo | ln | fr
  deriving DecidableEq
def Mo.own : Mo → Bool
  | .ow => true
  | .bo => true
  | .ln => true
  | _ => false
abbrev R := Mo × D
inductive Slot where
  | un
  | dat (m : Mo) (d : D)
abbrev Rh := List Slot
abbrev En := Slot × Option V
def Top (H : Hp) (O : Addr → Prop) : D → Addr → Prop
  | .lst ds, a => ∃ xs, H a = some (.lst xs) ∧ DVs H O ds xs
  | .dct kvs, a => (∃ ys, H a = some (.dK ys) ∧ DKs H O kvs ys) ∨ (∃ ys, H a = some (.dT ys) ∧ DTs H O kvs ys)
  | _, _ => False
def Val (H : Hp) (O : Addr → Prop) : Mo → D → V → Prop
  | .sh, d, v => DV H O d v
  | .fr, d, v => ∃ a o xs ds, d = .lst ds ∧ v = .ref a ∧ ¬ O a ∧ H a = some (.frz o (.lst xs)) ∧ DVs H O ds xs
  | .ow, d, v => ∃ a, v = .ref a ∧ O a ∧ Top H O d a
  | .bo, d, v => ∃ a, v = .ref a ∧ O a ∧ Top H O d a
  | .ln, d, v => ∃ a, v = .ref a ∧ O a ∧ Top H O d a
theorem Val.of_own {H : Hp} {O : Addr → Prop} {m : Mo} {d : D} {v : V} (hm : m.own = true) : Val H O m d v ↔ ∃ a, v = .ref a ∧ O a ∧ Top H O d a := by
  cases m with
  | sh => cases hm
  | fr => cases hm
  | ow => exact Iff.rfl
  | bo => exact Iff.rfl
  | ln => exact Iff.rfl
theorem Top.keep {H H' : Hp} {O O' : Addr → Prop} (k : ∀ b o, H b = some o → ¬ O b → H' b = some o) (g : ∀ b, O' b → O b ∨ H b = none) {d : D} {a : Addr} (ka : ∀ o, H a = some o → H' a = some o) (h : Top H O d a) : Top H' O' d a := by
  cases d with
  | lst ds =>
    obtain ⟨xs, e, r⟩ := h
    exact ⟨xs, ka _ e, DVs.keep k g _ _ r⟩
  | dct kvs =>
    rcases h with ⟨ys, e, r⟩ | ⟨ys, e, r⟩
    · exact .inl ⟨ys, ka _ e, DKs.keep k g _ _ r⟩
    · exact .inr ⟨ys, ka _ e, DTs.keep k g _ _ r⟩
  | _ => exact h.elim
def own (x : En) (a : Addr) : Prop := ∃ m d, x.1 = .dat m d ∧ m.own = true ∧ x.2 = some (.ref a)
def OwnL (S : List En) (a : Addr) : Prop := ∃ x ∈ S, own x a
def EntOk (H : Hp) (O : Addr → Prop) (x : En) : Prop := ∀ m d, x.1 = .dat m d → ∃ v, x.2 = some v ∧ Val H O m d v
structure RepL (Z : Addr → Prop) (H : Hp) (S : List En) : Prop where
  ok : ∀ x ∈ S, EntOk H (fun a => Z a ∨ OwnL S a) x
  out : ∀ a, OwnL S a → ¬ Z a
  dis : S.Pairwise (fun x y => ∀ a, own x a → own y a → False)
  zt : ∀ a, Z a → ∃ o, H a = some o
def Keep (P : Addr → Prop) (H H' : Hp) : Prop := ∀ b o, H b = some o → ¬ P b → H' b = some o
theorem OwnL.nil {a : Addr} : ¬ OwnL [] a := fun ⟨_, h, _⟩ => nomatch h
theorem OwnL.app {S T : List En} {a : Addr} : OwnL (S ++ T) a ↔ OwnL S a ∨ OwnL T a := by
  constructor
  · rintro ⟨x, hx, o⟩
    rcases List.mem_append.mp hx with h | h
    · exact .inl ⟨x, h, o⟩
    · exact .inr ⟨x, h, o⟩
  · rintro (⟨x, h, o⟩ | ⟨x, h, o⟩)
    · exact ⟨x, List.mem_append_left _ h, o⟩
    · exact ⟨x, List.mem_append_right _ h, o⟩
theorem OwnL.cons {x : En} {T : List En} {a : Addr} : OwnL (x :: T) a ↔ own x a ∨ OwnL T a := by
  rw [show x :: T = [x] ++ T from rfl, OwnL.app]
  constructor
  · rintro (⟨y, h, o⟩ | h)
    · rw [List.mem_singleton] at h; subst h; exact .inl o
    · exact .inr h
  · rintro (h | h)
    · exact .inl ⟨x, List.mem_singleton.mpr rfl, h⟩
    · exact .inr h
theorem OwnL.sub {S T : List En} (h : ∀ x ∈ S, x ∈ T) {a : Addr} : OwnL S a → OwnL T a := fun ⟨x, hx, o⟩ => ⟨x, h x hx, o⟩
theorem OwnL.perm {S T : List En} (h : S.Perm T) {a : Addr} : OwnL S a ↔ OwnL T a := ⟨OwnL.sub fun _ q => h.mem_iff.mp q, OwnL.sub fun _ q => h.mem_iff.mpr q⟩
theorem own_val {H : Hp} {O : Addr → Prop} {x : En} {a : Addr} (h : EntOk H O x) (o : own x a) : O a ∧ ∃ d, Top H O d a := by
  obtain ⟨m, d, e1, e2, e3⟩ := o
  obtain ⟨v, e4, hv⟩ := h m d e1
  rw [e3] at e4
  cases e4
  obtain ⟨b, eb, h1, h2⟩ := (Val.of_own e2).mp hv
  cases eb
  exact ⟨h1, d, h2⟩
theorem Top.tracked {H : Hp} {O : Addr → Prop} {d : D} {a : Addr} (h : Top H O d a) : ∃ o, H a = some o := by
  cases d with
  | lst ds => obtain ⟨xs, e, _⟩ := h; exact ⟨_, e⟩
  | dct kvs => rcases h with ⟨ys, e, _⟩ | ⟨ys, e, _⟩ <;> exact ⟨_, e⟩
  | _ => exact h.elim
theorem EntOk.keep {H H' : Hp} {O O' P : Addr → Prop} {x : En} (h : EntOk H O x) (k : Keep P H H') (hP : ∀ b, P b → O b) (nx : ∀ a, own x a → ¬ P a) (g : ∀ b, O' b → O b ∨ H b = none) (ho : ∀ a, own x a → O' a) : EntOk H' O' x := by
  intro m d e
  obtain ⟨v, ev, hv⟩ := h m d e
  have k' : ∀ b o, H b = some o → ¬ O b → H' b = some o := fun b o q n => k b o q fun z => n (hP b z)
  refine ⟨v, ev, ?_⟩
  have fin : m.own = true → Val H' O' m d v := fun hm => by
    obtain ⟨a, rfl, ha, t⟩ := (Val.of_own hm).mp hv
    have ow : own x a := ⟨m, d, e, hm, ev⟩
    exact (Val.of_own hm).mpr ⟨a, rfl, ho a ow, t.keep k' g fun o q => k a o q (nx a ow)⟩
  cases m with
  | sh => exact DV.keep k' g _ _ hv
  | fr =>
    obtain ⟨a, o, xs, ds, rfl, rfl, n, ha, r⟩ := hv
    exact ⟨a, o, xs, ds, rfl, rfl, nO g ha n, k' a _ ha n, DVs.keep k' g _ _ r⟩
  | ow => exact fin rfl
  | bo => exact fin rfl
  | ln => exact fin rfl
theorem EntOk.off {H : Hp} {O O' : Addr → Prop} {x : En} (h : EntOk H O x) (g : ∀ b, O' b → O b ∨ H b = none) (ho : ∀ a, own x a → O' a) : EntOk H O' x :=
  h.keep (P := fun _ => False) (fun _ _ q _ => q) (fun _ z => z.elim) (fun _ _ z => z) g ho
namespace RepL
variable {Z : Addr → Prop} {H H' : Hp} {S S' P P' T : List En}
theorem perm (r : RepL Z H S) (h : S.Perm S') : RepL Z H S' where
  ok := fun x hx => (r.ok x (h.mem_iff.mpr hx)).off (fun b z => .inl (z.imp id (OwnL.perm h).mpr)) fun a o => .inr ⟨x, hx, o⟩
  out := fun a z => r.out a ((OwnL.perm h).mpr z)
  dis := h.pairwise r.dis fun {x y} q a h1 h2 => q a h2 h1
  zt := r.zt
theorem sub (r : RepL Z H S) (h : S'.Sublist S) : RepL Z H S' where
  ok := fun x hx => (r.ok x (h.subset hx)).off (fun b z => .inl (z.imp id (OwnL.sub fun _ q => h.subset q))) fun a o => .inr ⟨x, hx, o⟩
  out := fun a z => r.out a (OwnL.sub (fun _ q => h.subset q) z)
  dis := r.dis.sublist h
  zt := r.zt
theorem drop (r : RepL Z H (P ++ S)) : RepL Z H S := r.sub (List.sublist_append_right P S)
theorem trk (r : RepL Z H S) {a : Addr} (h : OwnL S a) : ∃ o, H a = some o := by
  obtain ⟨x, hx, o⟩ := h
  obtain ⟨_, _, t⟩ := own_val (r.ok x hx) o
  exact t.tracked
theorem cross (r : RepL Z H (P ++ S)) {a : Addr} (h1 : OwnL P a) (h2 : OwnL S a) : False := by
  obtain ⟨x, hx, ox⟩ := h1
  obtain ⟨y, hy, oy⟩ := h2
  exact (List.pairwise_append.mp r.dis).2.2 x hx y hy a ox oy
theorem join (r : RepL Z H (P ++ S)) (r' : RepL (fun a => Z a ∨ OwnL S a) H' P') (k : Keep (OwnL P) H H') (g : ∀ a, OwnL P' a → OwnL P a ∨ H a = none) : RepL Z H' (P' ++ S) where
  ok := fun x hx => by
    rcases List.mem_append.mp hx with h | h
    · refine (r'.ok x h).off (fun b z => .inl ?_) fun a o => .inr (OwnL.app.mpr (.inl ⟨x, h, o⟩))
      rcases z with z | z
      · exact .inl (.inl z)
      · rcases OwnL.app.mp z with z | z
        · exact .inr z
        · exact .inl (.inr z)
    · refine (r.ok x (List.mem_append_right _ h)).keep k (fun b z => .inr (OwnL.app.mpr (.inl z))) (fun a o z => r.cross z ⟨x, h, o⟩) (fun b z => ?_) fun a o => .inr (OwnL.app.mpr (.inr ⟨x, h, o⟩))
      rcases z with z | z
      · exact .inl (.inl z)
      · rcases OwnL.app.mp z with z | z
        · exact (g b z).imp (fun q => .inr (OwnL.app.mpr (.inl q))) id
        · exact .inl (.inr (OwnL.app.mpr (.inr z)))
  out := fun a z => by
    rcases OwnL.app.mp z with z | z
    · exact fun q => r'.out a z (.inl q)
    · exact r.out a (OwnL.app.mpr (.inr z))
  dis := by
    refine List.pairwise_append.mpr ⟨r'.dis, (List.pairwise_append.mp r.dis).2.1, fun x hx y hy a ox oy => ?_⟩
    exact r'.out a ⟨x, hx, ox⟩ (.inr ⟨y, hy, oy⟩)
  zt := fun a z => r'.zt a (.inl z)
theorem temp {m : Mo} {d : D} {v : V} (r : RepL Z H ((.dat m d, some v) :: S)) (hm : m = .sh ∨ m = .ow) : DV H (fun a => Z a ∨ OwnL S a) d v := by
  obtain ⟨w, ew, hv⟩ := r.ok _ List.mem_cons_self m d rfl
  cases ew
  have g : ∀ b, (Z b ∨ OwnL S b) → (Z b ∨ OwnL ((Slot.dat m d, some v) :: S) b) ∨ H b = none := fun b z => .inl (z.imp id fun q => OwnL.cons.mpr (.inr q))
  rcases hm with rfl | rfl
  · exact DV.keep (fun _ _ q _ => q) g _ _ hv
  · obtain ⟨a, rfl, ha, t⟩ := hv
    have ow : own (Slot.dat .ow d, some (.ref a)) a := ⟨.ow, d, rfl, rfl, rfl⟩
    have na : ¬ (Z a ∨ OwnL S a) := by
      rintro (z | z)
      · exact r.out a (OwnL.cons.mpr (.inl ow)) z
      · exact r.cross (P := [_]) ⟨_, List.mem_singleton.mpr rfl, ow⟩ z
    cases d with
    | lst ds =>
      obtain ⟨xs, e, q⟩ := t
      unfold DV
      exact ⟨a, xs, rfl, na, e, DVs.keep (fun _ _ q _ => q) g _ _ q⟩
    | dct kvs =>
      unfold DV
      rcases t with ⟨ys, e, q⟩ | ⟨ys, e, q⟩
      · exact ⟨a, rfl, na, .inl ⟨ys, e, DKs.keep (fun _ _ q _ => q) g _ _ q⟩⟩
      · exact ⟨a, rfl, na, .inr ⟨ys, e, DTs.keep (fun _ _ q _ => q) g _ _ q⟩⟩
    | _ => exact t.elim
theorem push {x : En} (r : RepL Z H S) (h : EntOk H (fun a => Z a ∨ OwnL S a) x) (n : ∀ a, ¬ own x a) : RepL Z H (x :: S) where
  ok := fun y hy => by
    have g : ∀ b, (Z b ∨ OwnL (x :: S) b) → (Z b ∨ OwnL S b) ∨ H b = none := fun b z => .inl (z.imp id fun q => (OwnL.cons.mp q).elim (fun o => (n b o).elim) id)
    rcases List.mem_cons.mp hy with rfl | hy
    · exact h.off g fun a o => (n a o).elim
    · exact (r.ok y hy).off g fun a o => .inr ⟨y, List.mem_cons_of_mem _ hy, o⟩
  out := fun a z => r.out a ((OwnL.cons.mp z).elim (fun o => (n a o).elim) id)
  dis := List.pairwise_cons.mpr ⟨fun y _ a o _ => n a o, r.dis⟩
  zt := r.zt
theorem same (r : RepL Z H S) (h : Same H H') : RepL Z H' S where
  ok := fun y hy => (r.ok y hy).keep (P := fun _ => False) (fun b o q _ => h b o q) (fun _ z => z.elim) (fun _ _ z => z) (fun b z => .inl z) fun a o => .inr ⟨y, hy, o⟩
  out := r.out
  dis := r.dis
  zt := fun a z => let ⟨o, q⟩ := r.zt a z; ⟨o, h a o q⟩
theorem fresh {m : Mo} {d : D} {a : Addr} (r : RepL Z H S) (h : Same H H') (hm : m.own = true) (na : H a = none) (t : Top H' (fun b => (Z b ∨ OwnL S b) ∨ b = a) d a) : RepL Z H' ((.dat m d, some (.ref a)) :: S) := by
  have ow : own (Slot.dat m d, some (V.ref a)) a := ⟨m, d, rfl, hm, rfl⟩
  have ow' : ∀ b, own (Slot.dat m d, some (V.ref a)) b → b = a := fun b o => by
    obtain ⟨_, _, _, _, e⟩ := o
    exact (V.ref.inj (Option.some.inj e)).symm
  have nS : ∀ b, OwnL S b → b ≠ a := fun b z e => by
    obtain ⟨o, q⟩ := r.trk z
    rw [e, na] at q; cases q
  have q := r.same h
  refine ⟨fun y hy => ?_, fun b z => ?_, List.pairwise_cons.mpr ⟨fun y hy b o1 o2 => nS b ⟨y, hy, o2⟩ (ow' b o1), r.dis⟩, q.zt⟩
  · rcases List.mem_cons.mp hy with rfl | hy
    · intro m' d' e
      cases e
      refine ⟨_, rfl, (Val.of_own hm).mpr ⟨a, rfl, .inr (OwnL.cons.mpr (.inl ow)), t.keep (fun _ _ q _ => q) (fun b z => .inl ?_) fun _ q => q⟩⟩
      rcases z with z | z
      · exact .inl (.inl z)
      · rcases OwnL.cons.mp z with z | z
        · exact .inr (ow' b z)
        · exact .inl (.inr z)
    · refine (r.ok y hy).keep (P := fun _ => False) (fun b o q _ => h b o q) (fun _ z => z.elim) (fun _ _ z => z) (fun b z => ?_) fun c o => .inr ⟨y, List.mem_cons_of_mem _ hy, o⟩
      rcases z with z | z
      · exact .inl (.inl z)
      · rcases OwnL.cons.mp z with z | z
        · exact .inr (by rw [ow' b z]; exact na)
        · exact .inl (.inr z)
  · rcases OwnL.cons.mp z with z | z
    · rw [ow' b z]
      intro hz
      obtain ⟨o, e⟩ := r.zt a hz
      rw [na] at e; cases e
    · exact r.out b z
end RepL
def Sta (ρ : Rh) (σ : SV) (ρ' : Rh) (σ' : SV) : Prop := ∀ (i : Nat) (m : Mo) (d : D), ρ[i]? = some (.dat m d) → (m = .bo ∨ m = .ln) → ∃ d', ρ'[i]? = some (.dat m d') ∧ (m = .ln → d' = d) ∧ σ'[i]? = σ[i]?
theorem Sta.refl {ρ : Rh} {σ : SV} : Sta ρ σ ρ σ := fun _ _ d e _ => ⟨d, e, fun _ => rfl, rfl⟩
theorem Sta.trans {ρ ρ1 ρ2 : Rh} {σ σ1 σ2 : SV} (a : Sta ρ σ ρ1 σ1) (b : Sta ρ1 σ1 ρ2 σ2) : Sta ρ σ ρ2 σ2 := fun i m d e h => by
  obtain ⟨d1, e1, h1, s1⟩ := a i m d e h
  obtain ⟨d2, e2, h2, s2⟩ := b i m d1 e1 h
  exact ⟨d2, e2, fun z => (h2 z).trans (h1 z), s2.trans s1⟩
structure Nx (Z : Addr → Prop) (T : List En) (ρ : Rh) (σ : SV) (H : Hp) (X : List En) (ρ' : Rh) (σ' : SV) (H' : Hp) : Prop where
  len : ρ'.length = σ'.length
  lens : σ'.length = σ.length
  rep : RepL Z H' (X ++ (ρ'.zip σ' ++ T))
  keep : Keep (OwnL (ρ.zip σ)) H H'
  grow : ∀ a, OwnL (X ++ ρ'.zip σ') a → OwnL (ρ.zip σ) a ∨ H a = none
  sta : Sta ρ σ ρ' σ'
theorem Keep.refl {P : Addr → Prop} {H : Hp} : Keep P H H := fun _ _ q _ => q
theorem back {P : Addr → Prop} {H H1 : Hp} (k : Keep P H H1) {a : Addr} (h : H1 a = none) : P a ∨ H a = none := by
  by_cases p : P a
  · exact .inl p
  · cases q : H a with
    | none => exact .inr rfl
    | some o => rw [k a o q p] at h; cases h
theorem Keep.trans {P P1 : Addr → Prop} {H H1 H2 : Hp} (k : Keep P H H1) (k1 : Keep P1 H1 H2) (g : ∀ a, P1 a → P a ∨ H a = none) : Keep P H H2 := fun b o q n => k1 b o (k b o q n) fun z => by
  rcases g b z with z | z
  · exact n z
  · rw [q] at z; cases z
section
variable {Z : Addr → Prop} {T : List En} {ρ ρ1 ρ2 : Rh} {σ σ1 σ2 : SV} {H H1 H2 : Hp} {X Y : List En}
theorem Nx.refl (hl : ρ.length = σ.length) (r : RepL Z H (ρ.zip σ ++ T)) : Nx Z T ρ σ H [] ρ σ H := ⟨hl, rfl, r, .refl, fun _ z => .inl z, .refl⟩
theorem Nx.more (a : Nx Z T ρ σ H X ρ1 σ1 H1) (b : Nx Z (X ++ T) ρ1 σ1 H1 Y ρ2 σ2 H2) : Nx Z T ρ σ H (X ++ Y) ρ2 σ2 H2 where
  len := b.len
  lens := b.lens.trans a.lens
  rep := b.rep.perm (by
    rw [List.append_assoc X Y]
    have p1 : (Y ++ (ρ2.zip σ2 ++ (X ++ T))).Perm ((Y ++ ρ2.zip σ2) ++ (X ++ T)) := by rw [List.append_assoc]
    refine p1.trans ?_
    rw [← List.append_assoc (Y ++ ρ2.zip σ2) X T]
    refine ((List.perm_append_comm (l₁ := Y ++ ρ2.zip σ2) (l₂ := X)).append_right T).trans ?_
    simp only [List.append_assoc]
    exact List.Perm.refl _)
  keep := a.keep.trans b.keep fun c z => a.grow c (OwnL.app.mpr (.inr z))
  grow := fun c z => by
    rw [List.append_assoc] at z
    rcases OwnL.app.mp z with z | z
    · exact a.grow c (OwnL.app.mpr (.inl z))
    · rcases b.grow c z with z | z
      · exact a.grow c (OwnL.app.mpr (.inr z))
      · exact back a.keep z
  sta := a.sta.trans b.sta
theorem Nx.trans (a : Nx Z T ρ σ H [] ρ1 σ1 H1) (b : Nx Z T ρ1 σ1 H1 Y ρ2 σ2 H2) : Nx Z T ρ σ H Y ρ2 σ2 H2 := a.more (Y := Y) b
theorem Nx.let (a : Nx Z T ρ σ H (X ++ Y) ρ1 σ1 H1) : Nx Z T ρ σ H Y ρ1 σ1 H1 := ⟨a.len, a.lens, RepL.drop (P := X) (by have := a.rep; rw [List.append_assoc] at this; exact this), a.keep, fun c z => a.grow c (by rw [List.append_assoc]; exact OwnL.app.mpr (.inr z)), a.sta⟩
end
end G
end
section
set_option Elab.async false
set_option linter.all false
set_option maxRecDepth 100000
namespace G
open PySem PySem.Spec L2
abbrev Xn := Str
abbrev XQ := Xn → Rh → Prop
abbrev WG (α : Type) := Rh → (α → Rh → Prop) → XQ → Prop
abbrev WE := WG R
abbrev WT := WG Bool
inductive Ar where
  | loc (i : Nat)
  | tmp (m : Mo) (d : D)
abbrev WO := WG Ar
abbrev WA := WG (List Ar)
structure Ed where
  nx : Rh → Prop
  rt : R → Rh → Prop
  bk : Rh → Prop
  ct : Rh → Prop
  ex : XQ
abbrev WS := Rh → Ed → Prop
def MonoG {α : Type} (w : WG α) : Prop := ∀ (ρ : Rh) (Q Q' : α → Rh → Prop) (E E' : XQ), (∀ a ρ', Q a ρ' → Q' a ρ') → (∀ x ρ', E x ρ' → E' x ρ') → w ρ Q E → w ρ Q' E'
structure Ed.Le (D D' : Ed) : Prop where
  nx : ∀ ρ, D.nx ρ → D'.nx ρ
  rt : ∀ r ρ, D.rt r ρ → D'.rt r ρ
  bk : ∀ ρ, D.bk ρ → D'.bk ρ
  ct : ∀ ρ, D.ct ρ → D'.ct ρ
  ex : ∀ x ρ, D.ex x ρ → D'.ex x ρ
def MonoS (w : WS) : Prop := ∀ (ρ : Rh) (D D' : Ed), D.Le D' → w ρ D → w ρ D'
section
variable (cl : Str → Value) (W : WX)
def tG {α β : Type} (rel : α → β → SV → List En → Prop) (w : WG α) : SV → Hp → (β → Hp → Prop) → Prop := fun σ H Q =>
  ∃ (Z : Addr → Prop) (T : List En) (ρ : Rh), ρ.length = σ.length ∧ RepL Z H (ρ.zip σ ++ T) ∧
    w ρ (fun a ρ' => ∀ b X H', rel a b σ X → Nx Z T ρ σ H X ρ' σ H' → Q b H') (fun x ρ' => ∀ H', Nx Z T ρ σ H [] ρ' σ H' → W (cl x) none σ H')
def relE : R → V → SV → List En → Prop := fun r v _ X => X = [(.dat r.1 r.2, some v)]
def relT : Bool → Bool → SV → List En → Prop := fun a b _ X => a = b ∧ X = []
def relO : Ar → V → SV → List En → Prop
  | .loc i, v, σ, X => σ[i]? = some (some v) ∧ X = []
  | .tmp m d, v, _, X => X = [(.dat m d, some v)]
def relA : List Ar → List V → SV → List En → Prop
  | [], vs, _, X => vs = [] ∧ X = []
  | a :: as, vs, σ, X => ∃ v r X1 X2, vs = v :: r ∧ X = X1 ++ X2 ∧ relO a v σ X1 ∧ relA as r σ X2
abbrev tE (w : WE) : TE := tG cl W relE w
abbrev tT (w : WT) : TT := tG cl W relT w
abbrev tO (w : WO) : TE := tG cl W relO w
abbrev tA (w : WA) : TA := tG cl W relA w
def tSS (w : WS) : TS := fun De σ H =>
  ∃ (Z : Addr → Prop) (T : List En) (ρ : Rh), ρ.length = σ.length ∧ RepL Z H (ρ.zip σ ++ T) ∧
    w ρ { nx := fun ρ' => ∀ σ' H', Nx Z T ρ σ H [] ρ' σ' H' → De.nx σ' H'
          rt := fun r ρ' => ∀ v σ' H', Nx Z T ρ σ H [(.dat r.1 r.2, some v)] ρ' σ' H' → De.rt v H'
          bk := fun ρ' => ∀ σ' H', Nx Z T ρ σ H [] ρ' σ' H' → De.bk σ' H'
          ct := fun ρ' => ∀ σ' H', Nx Z T ρ σ H [] ρ' σ' H' → De.ct σ' H'
          ex := fun x ρ' => ∀ σ' H', Nx Z T ρ σ H [] ρ' σ' H' → W (cl x) none σ' H' }
end
section
variable {X : Cx} {e : Expr}
theorem pe_imp {t t' : TE} (h : PE X e t) (i : ∀ σ H Q, t' σ H Q → t σ H Q) : PE X e t' := ⟨fun pins s σ H Q I q => h.run pins s σ H Q I (i σ H Q q)⟩
theorem pt_imp {t t' : TT} (h : PT X e t) (i : ∀ σ H Q, t' σ H Q → t σ H Q) : PT X e t' := ⟨fun pins s σ H Q I q => h.run pins s σ H Q I (i σ H Q q)⟩
theorem pa_imp {es : List Expr} {t t' : TA} (h : PA X es t) (i : ∀ σ H Q, t' σ H Q → t σ H Q) : PA X es t' := ⟨fun pos pins s σ H Q I q => h.run pos pins s σ H Q I (i σ H Q q)⟩
theorem ps_imp {st : Stmt} {t t' : TS} (h : PS X st t) (i : ∀ D σ H, t' D σ H → t D σ H) : PS X st t' := ⟨fun pins s σ H D I q => h.run pins s σ H D I (i D σ H q)⟩
theorem pss_imp {st : List Stmt} {t t' : TS} (h : PSs X st t) (i : ∀ D σ H, t' D σ H → t D σ H) : PSs X st t' := ⟨fun pins s σ H D I q => h.run pins s σ H D I (i D σ H q)⟩
end
theorem tG.next {cl : Str → Value} {W : WX} {α β : Type} {rel : α → β → SV → List En → Prop} {w : WG α} {Z : Addr → Prop} {T X : List En} {ρ ρ1 : Rh} {σ : SV} {H H1 : Hp} {Q : β → Hp → Prop} (mono : MonoG w) (n : Nx Z T ρ σ H X ρ1 σ H1)
    (h : w ρ1 (fun a ρ' => ∀ b Y H', rel a b σ Y → Nx Z T ρ σ H (X ++ Y) ρ' σ H' → Q b H') (fun x ρ' => ∀ H', Nx Z T ρ σ H [] ρ' σ H' → W (cl x) none σ H')) : tG cl W rel w σ H1 Q := by
  refine ⟨Z, X ++ T, ρ1, n.len, n.rep.perm ?_, mono _ _ _ _ _ (fun a ρ' q b Y H' r n2 => q b Y H' r (n.more n2)) (fun x ρ' q H' n2 => q H' (Nx.let (X := X) (Y := []) (n.more n2))) h⟩
  rw [← List.append_assoc, ← List.append_assoc]
  exact (List.perm_append_comm (l₁ := X) (l₂ := ρ1.zip σ)).append_right T
theorem set_perm {α : Type} : ∀ {S : List α} {i : Nat} {x : α}, S[i]? = some x → ∃ rest, S.Perm (x :: rest) ∧ ∀ y, (S.set i y).Perm (y :: rest)
  | [], _, _, h => by simp at h
  | a :: S, 0, x, h => by
    simp at h; subst h
    exact ⟨S, .refl _, fun y => .refl _⟩
  | a :: S, i + 1, x, h => by
    obtain ⟨rest, h1, h2⟩ := set_perm (S := S) (i := i) (x := x) (by simpa using h)
    refine ⟨a :: rest, (h1.cons a).trans (.swap _ _ _), fun y => ?_⟩
    exact ((h2 y).cons a).trans (.swap _ _ _)
theorem zip_get {ρ : Rh} {σ : SV} {i : Nat} {s : Slot} (hl : ρ.length = σ.length) (h : ρ[i]? = some s) : ∃ ov, σ[i]? = some ov ∧ (ρ.zip σ)[i]? = some (s, ov) := by
  have hi : i < ρ.length := (List.getElem?_eq_some_iff.mp h).1
  have hi2 : i < σ.length := by omega
  refine ⟨σ[i], by simp [hi2], ?_⟩
  rw [List.getElem?_zip_eq_some]
  exact ⟨h, by simp [hi2]⟩
theorem zip_set {ρ : Rh} {σ : SV} (i : Nat) (s : Slot) (ov : Option V) : (ρ.set i s).zip (σ.set i ov) = (ρ.zip σ).set i (s, ov) := by
  induction ρ generalizing σ i with
  | nil => simp
  | cons a ρ ih =>
    cases σ with
    | nil => simp
    | cons b σ =>
      cases i with
      | zero => rfl
      | succ i => simp [ih]
theorem set_get_self {α : Type} {S : List α} {i : Nat} {x : α} (h : S[i]? = some x) : S.set i x = S := by
  induction S generalizing i with
  | nil => rfl
  | cons a S ih =>
    cases i with
    | zero => simp at h; subst h; rfl
    | succ i => simp at h; simp [ih h]
theorem zip_set1 {ρ : Rh} {σ : SV} {i : Nat} {s : Slot} {ov : Option V} (h : σ[i]? = some ov) : (ρ.set i s).zip σ = (ρ.zip σ).set i (s, ov) := by
  rw [← zip_set, set_get_self h]
section
variable {Z : Addr → Prop} {T : List En} {ρ : Rh} {σ : SV} {H : Hp}
theorem RepL.at_ (r : RepL Z H (ρ.zip σ ++ T)) (hl : ρ.length = σ.length) {i : Nat} {m : Mo} {d : D} (h : ρ[i]? = some (.dat m d)) : ∃ v, σ[i]? = some (some v) ∧ (ρ.zip σ)[i]? = some (.dat m d, some v) ∧ Val H (fun a => Z a ∨ OwnL (ρ.zip σ ++ T) a) m d v := by
  obtain ⟨ov, h1, h2⟩ := zip_get hl h
  obtain ⟨v, e, hv⟩ := r.ok (.dat m d, ov) (List.mem_append_left _ (List.mem_of_getElem? h2)) m d rfl
  have e : ov = some v := e
  subst e
  exact ⟨v, h1, h2, hv⟩
theorem RepL.front (r : RepL Z H (ρ.zip σ ++ T)) {i : Nat} {x : En} (h : (ρ.zip σ)[i]? = some x) : ∃ rest, RepL Z H (x :: (rest ++ T)) ∧ (ρ.zip σ).Perm (x :: rest) ∧ ∀ y, ((ρ.zip σ).set i y).Perm (y :: rest) := by
  obtain ⟨rest, h1, h2⟩ := set_perm h
  exact ⟨rest, r.perm (h1.append_right T), h1, h2⟩
end
theorem not_own_sh {d : D} {ov : Option V} {a : Addr} : ¬ own (.dat .sh d, ov) a := fun ⟨_, _, e, h, _⟩ => by cases e; cases h
def wVar (i : Nat) : WE := fun ρ Q _ => match ρ[i]? with
  | some (.dat .sh d) => Q (.sh, d) ρ
  | some (.dat .ow d) => Q (.sh, d) (ρ.set i (.dat .sh d))
  | _ => False
theorem wVar.mono (i : Nat) : MonoG (wVar i) := fun ρ Q Q' E E' hQ _ h => by
  unfold wVar at h ⊢
  split at h
  · exact hQ _ _ h
  · exact hQ _ _ h
  · exact h.elim
theorem Nx.dup {Z : Addr → Prop} {T : List En} {ρ : Rh} {σ : SV} {H : Hp} {i : Nat} {d : D} {v : V} (hl : ρ.length = σ.length) (r : RepL Z H (ρ.zip σ ++ T)) (h : (ρ.zip σ)[i]? = some (.dat .sh d, some v)) : Nx Z T ρ σ H [(.dat .sh d, some v)] ρ σ H where
  len := hl
  lens := rfl
  rep := r.push (r.ok _ (List.mem_append_left _ (List.mem_of_getElem? h))) fun a => not_own_sh
  keep := .refl
  grow := fun a z => by
    rcases OwnL.cons.mp z with z | z
    · exact (not_own_sh z).elim
    · exact .inl z
  sta := .refl
theorem Nx.freeze {Z : Addr → Prop} {T : List En} {ρ : Rh} {σ : SV} {H : Hp} {i : Nat} {d : D} (hl : ρ.length = σ.length) (r : RepL Z H (ρ.zip σ ++ T)) (h : ρ[i]? = some (.dat .ow d)) : Nx Z T ρ σ H [] (ρ.set i (.dat .sh d)) σ H := by
  obtain ⟨v, h1, h2, hv⟩ := r.at_ hl h
  obtain ⟨rest, r1, p1, p2⟩ := r.front h2
  have t := r1.temp (.inr rfl)
  have r2 : RepL Z H ((.dat .sh d, some v) :: (rest ++ T)) := (r1.drop (P := [_])).push (fun m d' e => by cases e; exact ⟨v, rfl, t⟩) fun a => not_own_sh
  have e := zip_set1 (ρ := ρ) (s := .dat .sh d) h1
  refine ⟨by simp [hl], rfl, ?_, .refl, fun a z => .inl ?_, fun j m d' e' hm => ?_⟩
  · show RepL Z H ((ρ.set i (.dat .sh d)).zip σ ++ T)
    rw [e]
    exact r2.perm (((p2 _).symm).append_right T)
  · have z : OwnL ((ρ.set i (.dat .sh d)).zip σ) a := z
    rw [e] at z
    rcases OwnL.cons.mp ((OwnL.perm (p2 _)).mp z) with z | z
    · exact (not_own_sh z).elim
    · exact (OwnL.perm p1).mpr (OwnL.cons.mpr (.inr z))
  · have ne : i ≠ j := fun z => by
      subst z
      rw [h] at e'
      cases e'
      rcases hm with hm | hm <;> cases hm
    exact ⟨d', by rw [List.getElem?_set_ne ne]; exact e', fun _ => rfl, rfl⟩
section
variable {X : Cx} {cl : Str → Value} {W : WX}
theorem pe_wVar {i : Nat} {x : Str} {pos : Pos} (h : PE X (.Name x pos) (tVar i)) : PE X (.Name x pos) (tE cl W (wVar i)) := pe_imp h fun σ H Q q => by
  obtain ⟨Z, T, ρ, hl, r, q⟩ := q
  unfold wVar at q
  split at q
  · rename_i d e
    obtain ⟨v, h1, h2, _⟩ := r.at_ hl e
    exact ⟨v, h1, q v _ H rfl (Nx.dup hl r h2)⟩
  · rename_i d e
    obtain ⟨v, h1, h2, hv⟩ := r.at_ hl e
    refine ⟨v, h1, q v _ H rfl ?_⟩
    have n1 := Nx.freeze hl r e
    have hi : (ρ.set i (Slot.dat .sh d))[i]? = some (.dat .sh d) := List.getElem?_set_self (List.getElem?_eq_some_iff.mp e).1
    obtain ⟨ov, g1, g2⟩ := zip_get n1.len hi
    rw [h1] at g1; cases g1
    exact n1.trans (Nx.dup n1.len n1.rep g2)
  · exact q.elim
end
def wC (d : D) : WE := fun ρ Q _ => Q (.sh, d) ρ
theorem wC.mono (d : D) : MonoG (wC d) := fun ρ Q Q' E E' hQ _ h => hQ _ _ h
theorem Nx.val {Z : Addr → Prop} {T : List En} {ρ : Rh} {σ : SV} {H : Hp} {d : D} {v : V} (hl : ρ.length = σ.length) (r : RepL Z H (ρ.zip σ ++ T)) (h : DV H (fun a => Z a ∨ OwnL (ρ.zip σ ++ T) a) d v) : Nx Z T ρ σ H [(.dat .sh d, some v)] ρ σ H where
  len := hl
  lens := rfl
  rep := r.push (fun m d' e => by cases e; exact ⟨v, rfl, h⟩) fun a => not_own_sh
  keep := .refl
  grow := fun a z => by
    rcases OwnL.cons.mp z with z | z
    · exact (not_own_sh z).elim
    · exact .inl z
  sta := .refl
theorem pe_wC {X : Cx} {cl : Str → Value} {W : WX} {e : Expr} {d : D} {v : V} (h : PE X e (tC v)) (hd : ∀ H O, DV H O d v) : PE X e (tE cl W (wC d)) := pe_imp h fun σ H Q q => by
  obtain ⟨Z, T, ρ, hl, r, q⟩ := q
  exact q v _ H rfl (Nx.val hl r (hd _ _))
def oLoc (i : Nat) : WO := fun ρ Q _ => match ρ[i]? with
  | some (.dat _ _) => Q (.loc i) ρ
  | _ => False
def oTmp (w : WE) : WO := fun ρ Q E => w ρ (fun r ρ' => Q (.tmp r.1 r.2) ρ') E
theorem oLoc.mono (i : Nat) : MonoG (oLoc i) := fun ρ Q Q' E E' hQ _ h => by
  unfold oLoc at h ⊢
  split at h
  · exact hQ _ _ h
  · exact h.elim
theorem oTmp.mono {w : WE} (m : MonoG w) : MonoG (oTmp w) := fun ρ Q Q' E E' hQ hE h => m ρ _ _ E E' (fun r ρ' => hQ _ _) hE h
def aNil : WA := fun ρ Q _ => Q [] ρ
def aCons (o : WO) (r : WA) : WA := fun ρ Q E => o ρ (fun a ρ1 => r ρ1 (fun as ρ2 => Q (a :: as) ρ2) E) E
theorem aNil.mono : MonoG aNil := fun ρ Q Q' E E' hQ _ h => hQ _ _ h
theorem aCons.mono {o : WO} {r : WA} (m : MonoG o) (m' : MonoG r) : MonoG (aCons o r) := fun ρ Q Q' E E' hQ hE h => m ρ _ _ E E' (fun a ρ1 q => m' ρ1 _ _ E E' (fun as ρ2 => hQ _ _) hE q) hE h
section
variable {X : Cx} {cl : Str → Value} {W : WX} {e : Expr} {es : List Expr}
theorem pe_oLoc {i : Nat} {x : Str} {pos : Pos} (h : PE X (.Name x pos) (tVar i)) : PE X (.Name x pos) (tO cl W (oLoc i)) := pe_imp h fun σ H Q q => by
  obtain ⟨Z, T, ρ, hl, r, q⟩ := q
  unfold oLoc at q
  split at q
  · rename_i m d e
    obtain ⟨v, h1, h2, _⟩ := r.at_ hl e
    exact ⟨v, h1, q v [] H ⟨h1, rfl⟩ (Nx.refl hl r)⟩
  · exact q.elim
theorem pe_oTmp {w : WE} (m : MonoG w) (h : PE X e (tE cl W w)) : PE X e (tO cl W (oTmp w)) := pe_imp h fun σ H Q q => by
  obtain ⟨Z, T, ρ, hl, r, q⟩ := q
  exact ⟨Z, T, ρ, hl, r, m _ _ _ _ _ (fun a ρ' q b Y H' er n => q b Y H' er n) (fun _ _ z => z) q⟩
theorem pa_aNil : PA X [] (tA cl W aNil) := pa_imp pa_nil fun σ H Q q => by
  obtain ⟨Z, T, ρ, hl, r, q⟩ := q
  exact q [] [] H ⟨rfl, rfl⟩ (Nx.refl hl r)
theorem pa_aCons {o : WO} {r : WA} (mo : MonoG o) (mr : MonoG r) (he : PE X e (tO cl W o)) (hr : PA X es (tA cl W r)) (hs : starEach (e :: es) X.env = (false, eval e X.env) :: starEach es X.env) : PA X (e :: es) (tA cl W (aCons o r)) :=
  pa_imp (pa_cons he hr hs) fun σ H Q q => by
    obtain ⟨Z, T, ρ, hl, rp, q⟩ := q
    refine ⟨Z, T, ρ, hl, rp, mo _ _ _ _ _ (fun a ρ1 q b X1 H1 er n => ?_) (fun _ _ z => z) q⟩
    refine tG.next mr n (mr _ _ _ _ _ (fun as ρ2 q vs Y H2 er2 n2 => ?_) (fun _ _ z => z) q)
    exact q (b :: vs) (X1 ++ Y) H2 ⟨b, vs, X1, Y, rfl, rfl, er, er2⟩ n2
end
end G
end
section
set_option Elab.async false
set_option linter.all false
set_option maxRecDepth 100000
namespace G
open PySem PySem.Spec L2
def res (ρ : Rh) : Ar → Option R
  | .loc i => match ρ[i]? with
    | some (.dat m d) => some (m, d)
    | _ => none
  | .tmp .sh d => some (.sh, d)
  | .tmp .ow d => some (.sh, d)
  | _ => none
def ress (ρ : Rh) : List Ar → Option (List R)
  | [] => some []
  | a :: as => match res ρ a, ress ρ as with
    | some r, some rs => some (r :: rs)
    | _, _ => none
def Cv (H : Hp) (O : Addr → Prop) (d : D) (v : V) : Prop := match d with
  | .lst ds => ∃ a xs, v = .ref a ∧ H a = some (.lst xs) ∧ DVs H O ds xs
  | .dct kvs => ∃ a, v = .ref a ∧ ((∃ ys, H a = some (.dK ys) ∧ DKs H O kvs ys) ∨ (∃ ys, H a = some (.dT ys) ∧ DTs H O kvs ys))
  | d => DV H O d v
def Vw (H : Hp) (O : Addr → Prop) (r : R) (v : V) : Prop := match r.1 with
  | .fr => ∃ a o xs ds, r.2 = .lst ds ∧ v = .ref a ∧ H a = some (.frz o (.lst xs)) ∧ DVs H O ds xs
  | .sh => DV H O r.2 v
  | _ => Cv H O r.2 v
def Vws (H : Hp) (O : Addr → Prop) : List R → List V → Prop
  | [], vs => vs = []
  | r :: rs, vs => ∃ v w, vs = v :: w ∧ Vw H O r v ∧ Vws H O rs w
theorem Cv.of_dv {H : Hp} {O : Addr → Prop} {d : D} {v : V} (h : DV H O d v) : Cv H O d v := by
  cases d with
  | lst ds => unfold DV at h; obtain ⟨a, xs, e, _, r⟩ := h; exact ⟨a, xs, e, r⟩
  | dct kvs => unfold DV at h; obtain ⟨a, e, _, r⟩ := h; exact ⟨a, e, r⟩
  | _ => exact h
theorem Cv.of_top {H : Hp} {O : Addr → Prop} {d : D} {a : Addr} (h : Top H O d a) : Cv H O d (.ref a) := by
  cases d with
  | lst ds => obtain ⟨xs, e⟩ := h; exact ⟨a, xs, rfl, e⟩
  | dct kvs => exact ⟨a, rfl, h⟩
  | _ => exact h.elim
theorem Vw.of_val {H : Hp} {O O' : Addr → Prop} {m : Mo} {d : D} {v : V} (h : Val H O m d v) (g : ∀ b, O' b → O b) : Vw H O' (m, d) v := by
  have k : ∀ b o, H b = some o → ¬ O b → H b = some o := fun _ _ q _ => q
  have g' : ∀ b, O' b → O b ∨ H b = none := fun b z => .inl (g b z)
  cases m with
  | sh => exact DV.keep k g' _ _ h
  | fr => obtain ⟨a, o, xs, ds, e1, e2, _, e3, r⟩ := h; exact ⟨a, o, xs, ds, e1, e2, e3, DVs.keep k g' _ _ r⟩
  | ow => obtain ⟨a, rfl, _, t⟩ := h; exact Cv.of_top (t.keep k g' fun _ q => q)
  | bo => obtain ⟨a, rfl, _, t⟩ := h; exact Cv.of_top (t.keep k g' fun _ q => q)
  | ln => obtain ⟨a, rfl, _, t⟩ := h; exact Cv.of_top (t.keep k g' fun _ q => q)
section
variable {Z : Addr → Prop} {T X : List En} {ρ : Rh} {σ : SV} {H : Hp}
theorem view1 {a : Ar} {v : V} {r : R} (hl : ρ.length = σ.length) (rp : RepL Z H (X ++ (ρ.zip σ ++ T))) (e : relO a v σ X) (h : res ρ a = some r) : Vw H (fun b => Z b ∨ OwnL (ρ.zip σ ++ T) b) r v := by
  cases a with
  | loc i =>
    obtain ⟨e1, rfl⟩ := e
    have h : (match ρ[i]? with
      | some (.dat m d) => some (m, d)
      | _ => none) = some r := h
    split at h
    · rename_i m d em
      cases h
      obtain ⟨w, w1, _, w2⟩ := rp.at_ hl em
      rw [e1] at w1; cases w1
      exact Vw.of_val w2 fun _ z => z
    · cases h
  | tmp m d =>
    have e : X = [(.dat m d, some v)] := e
    subst e
    cases m with
    | sh => cases h; exact rp.temp (.inl rfl)
    | ow => cases h; exact rp.temp (.inr rfl)
    | _ => cases h
theorem views {as : List Ar} : ∀ {vs : List V} {rs : List R} {X : List En}, ρ.length = σ.length → RepL Z H (X ++ (ρ.zip σ ++ T)) → relA as vs σ X → ress ρ as = some rs → Vws H (fun b => Z b ∨ OwnL (ρ.zip σ ++ T) b) rs vs := by
  induction as with
  | nil =>
    intro vs rs X hl rp e h
    cases h
    exact e.1
  | cons a as ih =>
    intro vs rs X hl rp e h
    obtain ⟨v, w, X1, X2, rfl, rfl, e1, e2⟩ := e
    unfold ress at h
    split at h
    · rename_i r rs' h1 h2
      cases h
      rw [List.append_assoc] at rp
      have s1 : (X1 ++ (ρ.zip σ ++ T)).Sublist (X1 ++ (X2 ++ (ρ.zip σ ++ T))) := (List.sublist_append_right X2 _).append_left X1
      exact ⟨v, w, rfl, view1 hl (rp.sub s1) e1 h1, ih hl rp.drop e2 h2⟩
    · cases h
end
def Out (O : Addr → Prop) (H : Hp) (m : Mo) (d : D) (v : V) (H' : Hp) : Prop :=
  Same H H' ∧ ((m = .sh ∧ DV H' O d v) ∨ (m = .ow ∧ ∃ a, v = .ref a ∧ H a = none ∧ Top H' (fun b => O b ∨ b = a) d a))
theorem Out.val {O : Addr → Prop} {H : Hp} {d : D} {v : V} (h : DV H O d v) : Out O H .sh d v H := ⟨.refl _, .inl ⟨rfl, h⟩⟩
theorem same_new {H : Hp} {p : Addr} {o : HO} (h : H p = none) : Same H (upd H p o) := fun b x e => by
  rw [upd_ne (ne_of_none e h)]; exact e
theorem DVs.grow {H H' : Hp} {O O' : Addr → Prop} {ds : List D} {xs : List V} (h : DVs H O ds xs) (s : Same H H') (g : ∀ b, O' b → O b ∨ H b = none) : DVs H' O' ds xs := DVs.keep (fun b o q _ => s b o q) g _ _ h
theorem DV.grow {H H' : Hp} {O O' : Addr → Prop} {d : D} {x : V} (h : DV H O d x) (s : Same H H') (g : ∀ b, O' b → O b ∨ H b = none) : DV H' O' d x := DV.keep (fun b o q _ => s b o q) g _ _ h
theorem Out.lst {O : Addr → Prop} {H : Hp} {p : Addr} {ds : List D} {xs : List V} (h : H p = none) (r : DVs H O ds xs) : Out O H .ow (.lst ds) (.ref p) (upd H p (.lst xs)) :=
  ⟨same_new h, .inr ⟨rfl, p, rfl, h, xs, upd_same, r.grow (same_new h) fun b z => z.imp id fun e => by rw [e]; exact h⟩⟩
theorem Out.tup {O : Addr → Prop} {H : Hp} {p : Addr} {ds : List D} {xs : List V} (h : H p = none) (no : ¬ O p) (r : DVs H O ds xs) : Out O H .sh (.tup ds) (.ref p) (upd H p (.tup xs)) :=
  ⟨same_new h, .inl ⟨rfl, by unfold DV; exact ⟨p, xs, rfl, no, upd_same, r.grow (same_new h) fun b z => .inl z⟩⟩⟩
theorem Nx.out {Z : Addr → Prop} {T X : List En} {ρ ρ1 : Rh} {σ : SV} {H H1 H2 : Hp} {m : Mo} {d : D} {v : V} (n : Nx Z T ρ σ H X ρ1 σ H1) (o : Out (fun b => Z b ∨ OwnL (ρ1.zip σ ++ T) b) H1 m d v H2) : Nx Z T ρ σ H [(.dat m d, some v)] ρ1 σ H2 := by
  have n1 : Nx Z T ρ σ H [] ρ1 σ H1 := Nx.let (X := X) (Y := []) (by rw [List.append_nil]; exact n)
  obtain ⟨s, o⟩ := o
  refine ⟨n.len, n.lens, ?_, fun b x q hn => s b x (n.keep b x q hn), fun a z => ?_, n.sta⟩
  · have r1 : RepL Z H1 (ρ1.zip σ ++ T) := n1.rep
    rcases o with ⟨rfl, dv⟩ | ⟨rfl, a, rfl, na, t⟩
    · exact (r1.same s).push (fun m' d' e => by cases e; exact ⟨v, rfl, dv⟩) fun a => not_own_sh
    · exact r1.fresh s rfl na t
  · rcases OwnL.cons.mp z with z | z
    · rcases o with ⟨rfl, dv⟩ | ⟨rfl, b, rfl, na, t⟩
      · exact (not_own_sh z).elim
      · obtain ⟨_, _, _, _, e⟩ := z
        cases V.ref.inj (Option.some.inj e)
        exact back n.keep na
    · exact n1.grow a z
theorem fresh_off {Z : Addr → Prop} {S : List En} {H : Hp} {p : Addr} (r : RepL Z H S) (h : H p = none) : ¬ (Z p ∨ OwnL S p) := by
  rintro (z | z)
  · obtain ⟨o, q⟩ := r.zt p z; rw [h] at q; cases q
  · obtain ⟨o, q⟩ := r.trk z; rw [h] at q; cases q
abbrev P1 := R → (R → Prop) → Prop
abbrev P2 := R → R → (R → Prop) → Prop
abbrev PN := List R → (R → Prop) → Prop
def MonoN (f : PN) : Prop := ∀ rs Q Q', (∀ r, Q r → Q' r) → f rs Q → f rs Q'
def Off (O : Addr → Prop) (H : Hp) : Prop := ∀ p, H p = none → ¬ O p
def POk (r : List V → Hp → VK → Prop) (f : PN) : Prop := ∀ (O : Addr → Prop) (H : Hp) (rs : List R) (vs : List V) (Qd : R → Prop) (Q : VK), Off O H → Vws H O rs vs → f rs Qd → (∀ m d v H', Qd (m, d) → Out O H m d v H' → Q v H') → r vs H Q
def wN (f : PN) (wa : WA) : WE := fun ρ Q E => wa ρ (fun as ρ' => match ress ρ' as with
  | some rs => f rs fun r => Q r ρ'
  | none => False) E
theorem wN.mono {f : PN} {wa : WA} (mf : MonoN f) (ma : MonoG wa) : MonoG (wN f wa) := fun ρ Q Q' E E' hQ hE h => ma ρ _ _ E E' (fun as ρ' q => by
  split at q
  · exact mf _ _ _ (fun r => hQ r ρ') q
  · exact q.elim) hE h
theorem tN {cl : Str → Value} {W : WX} {f : PN} {wa : WA} {r : List V → Hp → VK → Prop} (ma : MonoG wa) (ok : POk r f) : ∀ σ H Q, tE cl W (wN f wa) σ H Q → tCB r (tA cl W wa) σ H Q := fun σ H Q q => by
  obtain ⟨Z, T, ρ, hl, rp, q⟩ := q
  refine ⟨Z, T, ρ, hl, rp, ma _ _ _ _ _ (fun as ρ1 q vs X1 H1 er n => ?_) (fun _ _ z => z) q⟩
  split at q
  · rename_i rs e
    refine ok _ H1 rs vs _ Q (fun p hp => fresh_off n.rep.drop hp) (views n.len n.rep er e) q fun m d v H2 qd o => qd v _ H2 rfl (n.out o)
  · exact q.elim
def Mono2 (f : P2) : Prop := ∀ r s Q Q', (∀ r, Q r → Q' r) → f r s Q → f r s Q'
def POk2 (r : R2) (f : P2) : Prop := ∀ (O : Addr → Prop) (H : Hp) (a b : R) (x y : V) (Qd : R → Prop) (Q : VK), Off O H → Vw H O a x → Vw H O b y → f a b Qd → (∀ m d v H', Qd (m, d) → Out O H m d v H' → Q v H') → r x y H Q
def w2 (f : P2) (oa ob : WO) : WE := fun ρ Q E => oa ρ (fun a ρ1 => ob ρ1 (fun b ρ2 => match res ρ2 a, res ρ2 b with
  | some x, some y => f x y fun r => Q r ρ2
  | _, _ => False) E) E
theorem w2.mono {f : P2} {oa ob : WO} (mf : Mono2 f) (ma : MonoG oa) (mb : MonoG ob) : MonoG (w2 f oa ob) := fun ρ Q Q' E E' hQ hE h => ma ρ _ _ E E' (fun a ρ1 q => mb ρ1 _ _ E E' (fun b ρ2 q => by
  split at q
  · exact mf _ _ _ _ (fun r => hQ r ρ2) q
  · exact q.elim) hE q) hE h
theorem t2 {cl : Str → Value} {W : WX} {f : P2} {oa ob : WO} {r : R2} (ma : MonoG oa) (mb : MonoG ob) (ok : POk2 r f) : ∀ σ H Q, tE cl W (w2 f oa ob) σ H Q → tOp r (tO cl W oa) (tO cl W ob) σ H Q := fun σ H Q q => by
  obtain ⟨Z, T, ρ, hl, rp, q⟩ := q
  refine ⟨Z, T, ρ, hl, rp, ma _ _ _ _ _ (fun a ρ1 q v1 X1 H1 e1 n => ?_) (fun _ _ z => z) q⟩
  refine tG.next mb n (mb _ _ _ _ _ (fun b ρ2 q v2 X2 H2 e2 n2 => ?_) (fun _ _ z => z) q)
  split at q
  · rename_i x y ex ey
    have hv := views (as := [a, b]) (vs := [v1, v2]) (rs := [x, y]) n2.len n2.rep ⟨v1, [v2], X1, X2, rfl, rfl, e1, v2, [], X2, [], rfl, (List.append_nil _).symm, e2, rfl, rfl⟩ (by
      unfold ress ress ress
      rw [ex, ey])
    obtain ⟨_, _, ew, hv1, _, _, ew2, hv2, _⟩ := hv
    cases ew
    cases ew2
    exact ok _ H2 x y v1 v2 _ Q (fun p hp => fresh_off n2.rep.drop hp) hv1 hv2 q fun m d v H3 qd o => qd v _ H3 rfl (n2.out o)
  · exact q.elim
def Mono1 (f : P1) : Prop := ∀ r Q Q', (∀ r, Q r → Q' r) → f r Q → f r Q'
def POk1 (r : V → Hp → VK → Prop) (f : P1) : Prop := ∀ (O : Addr → Prop) (H : Hp) (a : R) (x : V) (Qd : R → Prop) (Q : VK), Off O H → Vw H O a x → f a Qd → (∀ m d v H', Qd (m, d) → Out O H m d v H' → Q v H') → r x H Q
def w1 (f : P1) (oa : WO) : WE := fun ρ Q E => oa ρ (fun a ρ1 => match res ρ1 a with
  | some x => f x fun r => Q r ρ1
  | _ => False) E
theorem w1.mono {f : P1} {oa : WO} (mf : Mono1 f) (ma : MonoG oa) : MonoG (w1 f oa) := fun ρ Q Q' E E' hQ hE h => ma ρ _ _ E E' (fun a ρ1 q => by
  split at q
  · exact mf _ _ _ (fun r => hQ r ρ1) q
  · exact q.elim) hE h
theorem t1 {cl : Str → Value} {W : WX} {f : P1} {oa : WO} {r : V → Hp → VK → Prop} (ma : MonoG oa) (ok : POk1 r f) : ∀ σ H Q, tE cl W (w1 f oa) σ H Q → tUn r (tO cl W oa) σ H Q := fun σ H Q q => by
  obtain ⟨Z, T, ρ, hl, rp, q⟩ := q
  refine ⟨Z, T, ρ, hl, rp, ma _ _ _ _ _ (fun a ρ1 q v1 X1 H1 e1 n => ?_) (fun _ _ z => z) q⟩
  split at q
  · rename_i x ex
    exact ok _ H1 x v1 _ Q (fun p hp => fresh_off n.rep.drop hp) (view1 n.len n.rep e1 ex) q fun m d v H3 qd o => qd v _ H3 rfl (n.out o)
  · exact q.elim
end G
end
section
set_option Elab.async false
set_option linter.all false
set_option maxRecDepth 100000
namespace G
open PySem PySem.Spec L2
section
variable {H : Hp} {O : Addr → Prop}
theorem DVs.iff : ∀ {ds : List D} {xs : List V}, DVs H O ds xs ↔ xs.length = ds.length ∧ ∀ (i : Nat) (d : D) (x : V), ds[i]? = some d → xs[i]? = some x → DV H O d x
  | [], xs => by
    unfold DVs
    constructor
    · rintro rfl; exact ⟨rfl, fun i d x h => by simp at h⟩
    · rintro ⟨h, _⟩; exact List.eq_nil_of_length_eq_zero h
  | d :: ds, xs => by
    unfold DVs
    constructor
    · rintro ⟨x, r, rfl, h1, h2⟩
      obtain ⟨hl, hr⟩ := DVs.iff.mp h2
      refine ⟨by simp [hl], fun i d' x' e1 e2 => ?_⟩
      cases i with
      | zero => simp at e1 e2; subst e1 e2; exact h1
      | succ i => exact hr i d' x' (by simpa using e1) (by simpa using e2)
    · rintro ⟨hl, hr⟩
      cases xs with
      | nil => simp at hl
      | cons x r => exact ⟨x, r, rfl, hr 0 d x rfl rfl, DVs.iff.mpr ⟨by simpa using hl, fun i d' x' e1 e2 => hr (i + 1) d' x' (by simpa using e1) (by simpa using e2)⟩⟩
theorem DVs.len {ds : List D} {xs : List V} (h : DVs H O ds xs) : xs.length = ds.length := (DVs.iff.mp h).1
theorem DVs.get {ds : List D} {xs : List V} (h : DVs H O ds xs) {i : Nat} {d : D} (e : ds[i]? = some d) : ∃ x, xs[i]? = some x ∧ DV H O d x := by
  obtain ⟨hl, hr⟩ := DVs.iff.mp h
  have hi : i < xs.length := by rw [hl]; exact (List.getElem?_eq_some_iff.mp e).1
  exact ⟨xs[i], by simp [hi], hr i d _ e (by simp [hi])⟩
theorem DVs.nil : DVs H O [] [] := by unfold DVs; rfl
theorem DVs.cons {d : D} {x : V} {ds : List D} {xs : List V} (h : DV H O d x) (r : DVs H O ds xs) : DVs H O (d :: ds) (x :: xs) := by unfold DVs; exact ⟨x, xs, rfl, h, r⟩
theorem DVs.app : ∀ {ds es : List D} {xs ys : List V}, DVs H O ds xs → DVs H O es ys → DVs H O (ds ++ es) (xs ++ ys)
  | [], _, _, _, h, r => by unfold DVs at h; subst h; exact r
  | d :: ds, _, _, _, h, r => by
    unfold DVs at h
    obtain ⟨x, w, rfl, h1, h2⟩ := h
    exact DVs.cons h1 (DVs.app h2 r)
theorem DVs.take {ds : List D} {xs : List V} (h : DVs H O ds xs) (n : Nat) : DVs H O (ds.take n) (xs.take n) := by
  obtain ⟨hl, hr⟩ := DVs.iff.mp h
  refine DVs.iff.mpr ⟨by simp [hl], fun i d x e1 e2 => ?_⟩
  rw [List.getElem?_take] at e1 e2
  split at e1
  · rename_i c; rw [if_pos c] at e2; exact hr i d x e1 e2
  · cases e1
theorem DVs.drop {ds : List D} {xs : List V} (h : DVs H O ds xs) (n : Nat) : DVs H O (ds.drop n) (xs.drop n) := by
  obtain ⟨hl, hr⟩ := DVs.iff.mp h
  refine DVs.iff.mpr ⟨by simp [hl], fun i d x e1 e2 => ?_⟩
  rw [List.getElem?_drop] at e1 e2
  exact hr _ d x e1 e2
theorem DVs.set {ds : List D} {xs : List V} (h : DVs H O ds xs) (n : Nat) {d : D} {x : V} (hd : DV H O d x) : DVs H O (ds.set n d) (xs.set n x) := by
  obtain ⟨hl, hr⟩ := DVs.iff.mp h
  refine DVs.iff.mpr ⟨by simp [hl], fun i d' x' e1 e2 => ?_⟩
  rw [List.getElem?_set] at e1 e2
  split at e1
  · rename_i c
    rw [if_pos c] at e2
    split at e1
    · split at e2
      · cases e1; cases e2; exact hd
      · cases e2
    · cases e1
  · rename_i c; rw [if_neg c] at e2; exact hr i d' x' e1 e2
theorem DVs.erase : ∀ {ds : List D} {xs : List V} (n : Nat), DVs H O ds xs → DVs H O (ds.eraseIdx n) (xs.eraseIdx n)
  | [], _, n, h => by unfold DVs at h; subst h; exact DVs.nil
  | d :: ds, _, 0, h => by unfold DVs at h; obtain ⟨x, w, rfl, h1, h2⟩ := h; exact h2
  | d :: ds, _, n + 1, h => by
    unfold DVs at h
    obtain ⟨x, w, rfl, h1, h2⟩ := h
    exact DVs.cons h1 (DVs.erase n h2)
theorem DVs.rev : ∀ {ds : List D} {xs : List V}, DVs H O ds xs → DVs H O ds.reverse xs.reverse
  | [], _, h => by unfold DVs at h; subst h; exact DVs.nil
  | d :: ds, _, h => by
    unfold DVs at h
    obtain ⟨x, w, rfl, h1, h2⟩ := h
    rw [List.reverse_cons, List.reverse_cons]
    exact DVs.app (DVs.rev h2) (DVs.cons h1 DVs.nil)
theorem DVs.rep {ds : List D} {xs : List V} (h : DVs H O ds xs) : ∀ n : Nat, DVs H O (List.replicate n ds).flatten (List.replicate n xs).flatten
  | 0 => DVs.nil
  | n + 1 => by
    rw [List.replicate_succ, List.replicate_succ, List.flatten_cons, List.flatten_cons]
    exact DVs.app h (DVs.rep h n)
theorem DVs.dropLast {ds : List D} {xs : List V} (h : DVs H O ds xs) : DVs H O ds.dropLast xs.dropLast := by
  rw [List.dropLast_eq_take, List.dropLast_eq_take, h.len]
  exact h.take _
def intsOf : List D → Option (List Int)
  | [] => some []
  | .int i :: r => match intsOf r with
    | some ns => some (i :: ns)
    | none => none
  | _ :: _ => none
theorem intsOf_map : ∀ ns : List Int, intsOf (ns.map D.int) = some ns
  | [] => rfl
  | n :: ns => by
    have h := intsOf_map ns
    show (match intsOf (ns.map D.int) with | some ns => some (n :: ns) | none => none) = _
    rw [h]
theorem DVs.intsOf : ∀ {ds : List D} {xs : List V} {ns : List Int}, DVs H O ds xs → G.intsOf ds = some ns → xs = ns.map V.int
  | [], _, _, h, e => by unfold DVs at h; subst h; cases e; rfl
  | d :: ds, _, _, h, e => by
    unfold DVs at h
    obtain ⟨x, w, rfl, h1, h2⟩ := h
    cases d with
    | int i =>
      have e : (match G.intsOf ds with | some ns => some (i :: ns) | none => none) = some _ := e
      split at e
      · rename_i ns' e'
        cases e
        unfold DV at h1
        subst h1
        rw [DVs.intsOf h2 e']; rfl
      · cases e
    | _ => cases e
def boolsOf : List D → Option (List Bool)
  | [] => some []
  | .bl i :: r => match boolsOf r with
    | some ns => some (i :: ns)
    | none => none
  | _ :: _ => none
theorem boolsOf_map : ∀ ns : List Bool, boolsOf (ns.map D.bl) = some ns
  | [] => rfl
  | n :: ns => by
    have h := boolsOf_map ns
    show (match boolsOf (ns.map D.bl) with | some ns => some (n :: ns) | none => none) = _
    rw [h]
theorem DVs.boolsOf : ∀ {ds : List D} {xs : List V} {ns : List Bool}, DVs H O ds xs → G.boolsOf ds = some ns → xs = ns.map V.bl
  | [], _, _, h, e => by unfold DVs at h; subst h; cases e; rfl
  | d :: ds, _, _, h, e => by
    unfold DVs at h
    obtain ⟨x, w, rfl, h1, h2⟩ := h
    cases d with
    | bl i =>
      have e : (match G.boolsOf ds with | some ns => some (i :: ns) | none => none) = some _ := e
      split at e
      · rename_i ns' e'
        cases e
        unfold DV at h1
        subst h1
        rw [DVs.boolsOf h2 e']; rfl
      · cases e
    | _ => cases e
end
section
variable {H : Hp} {O : Addr → Prop} {m : Mo} {v : V}
theorem Vw.cv {d : D} (h : Vw H O (m, d) v) (hm : m ≠ .fr) : Cv H O d v := by
  cases m with
  | fr => exact absurd rfl hm
  | sh => exact Cv.of_dv h
  | _ => exact h
theorem Vw.int {i : Int} (h : Vw H O (m, .int i) v) : v = .int i := by
  cases m with
  | fr => obtain ⟨_, _, _, _, e, _⟩ := h; cases e
  | _ => have h : DV H O (.int i) v := h; unfold DV at h; exact h
theorem Vw.bl {i : Bool} (h : Vw H O (m, .bl i) v) : v = .bl i := by
  cases m with
  | fr => obtain ⟨_, _, _, _, e, _⟩ := h; cases e
  | _ => have h : DV H O (.bl i) v := h; unfold DV at h; exact h
theorem Vw.str {i : Str} (h : Vw H O (m, .str i) v) : v = .str i := by
  cases m with
  | fr => obtain ⟨_, _, _, _, e, _⟩ := h; cases e
  | _ => have h : DV H O (.str i) v := h; unfold DV at h; exact h
theorem Vw.non (h : Vw H O (m, .non) v) : v = .non := by
  cases m with
  | fr => obtain ⟨_, _, _, _, e, _⟩ := h; cases e
  | _ => have h : DV H O (.non) v := h; unfold DV at h; exact h
theorem Vw.tup {ds : List D} (h : Vw H O (m, .tup ds) v) : ∃ p xs, v = .ref p ∧ H p = some (.tup xs) ∧ DVs H O ds xs ∧ ¬ O p := by
  cases m with
  | fr => obtain ⟨_, _, _, _, e, _⟩ := h; cases e
  | _ => have h : DV H O (.tup ds) v := h; unfold DV at h; obtain ⟨a, xs, e, n, r, q⟩ := h; exact ⟨a, xs, e, r, q, n⟩
theorem Vw.lst {ds : List D} (h : Vw H O (m, .lst ds) v) : ∃ p xs, v = .ref p ∧ Rd H p (.lst xs) ∧ DVs H O ds xs := by
  cases m with
  | fr => obtain ⟨a, o, xs, ds', e, e1, e2, r⟩ := h; cases e; exact ⟨a, xs, e1, .inr ⟨o, e2⟩, r⟩
  | _ => obtain ⟨a, xs, e, r, q⟩ := h.cv (by decide); exact ⟨a, xs, e, .inl r, q⟩
theorem Vw.lstT {ds : List D} (h : Vw H O (m, .lst ds) v) (hm : m ≠ .fr) : ∃ p xs, v = .ref p ∧ H p = some (.lst xs) ∧ DVs H O ds xs := by
  obtain ⟨a, xs, e, r, q⟩ := h.cv hm
  exact ⟨a, xs, e, r, q⟩
theorem sqL_of {K : PySem.W.Frag} {p : Addr} {xs : List V} (h : Rd H p (.lst xs)) : SqL K H p xs := .inl h
end
mutual
def toPy : D → Option PyData
  | .non => some .none
  | .bl b => some (.bool b)
  | .int i => some (.int i)
  | .str x => some (.str x)
  | .lst ds => match toPys ds with
    | some ps => some (.list ps)
    | none => none
  | .tup ds => match toPys ds with
    | some ps => some (.tuple ps)
    | none => none
  | .dct _ => none
  | .set _ => none
  | .obj _ => none
def toPys : List D → Option (List PyData)
  | [] => some []
  | d :: ds => match toPy d, toPys ds with
    | some p, some ps => some (p :: ps)
    | _, _ => none
end
section
variable {K : PySem.W.Frag} {H : Hp} {O : Addr → Prop}
mutual
theorem dp_of : ∀ (d : D) (v : V) (p : PyData), DV H O d v → toPy d = some p → Dp K H v p
  | .non, _, _, h, e => by unfold DV at h; unfold toPy at e; cases e; subst h; exact .non
  | .bl b, _, _, h, e => by unfold DV at h; unfold toPy at e; cases e; subst h; exact .bl b
  | .int b, _, _, h, e => by unfold DV at h; unfold toPy at e; cases e; subst h; exact .int b
  | .str b, _, _, h, e => by unfold DV at h; unfold toPy at e; cases e; subst h; exact .str b
  | .lst ds, _, _, h, e => by
    unfold DV at h; unfold toPy at e
    obtain ⟨a, xs, rfl, _, ha, r⟩ := h
    split at e
    · rename_i ps e'; cases e; exact .lst (SqL.of ha) (dps_of ds xs ps r e')
    · cases e
  | .tup ds, _, _, h, e => by
    unfold DV at h; unfold toPy at e
    obtain ⟨a, xs, rfl, _, ha, r⟩ := h
    split at e
    · rename_i ps e'; cases e; exact .tup (SqT.of ha) (dps_of ds xs ps r e')
    · cases e
  | .dct _, _, _, _, e => by unfold toPy at e; cases e
  | .set _, _, _, _, e => by unfold toPy at e; cases e
  | .obj _, _, _, _, e => by unfold toPy at e; cases e
theorem dps_of : ∀ (ds : List D) (vs : List V) (ps : List PyData), DVs H O ds vs → toPys ds = some ps → DpAll K H vs ps
  | [], _, _, h, e => by unfold DVs at h; unfold toPys at e; cases e; subst h; exact .nil
  | d :: ds, _, _, h, e => by
    unfold DVs at h; unfold toPys at e
    obtain ⟨x, r, rfl, h1, h2⟩ := h
    split at e
    · rename_i p ps e1 e2; cases e; exact .cons (dp_of d x p h1 e1) (dps_of ds r ps h2 e2)
    · cases e
end
theorem Vw.dp {r : R} {v : V} {p : PyData} (h : Vw H O r v) (e : toPy r.2 = some p) : Dp K H v p := by
  obtain ⟨m, d⟩ := r
  cases d with
  | lst ds =>
    obtain ⟨a, xs, rfl, ha, q⟩ := h.lst
    have e : toPy (.lst ds) = some p := e
    unfold toPy at e
    split at e
    · rename_i ps e'; cases e; exact .lst (sqL_of ha) (dps_of ds xs ps q e')
    · cases e
  | dct kvs => have e : toPy (.dct kvs) = some p := e; unfold toPy at e; cases e
  | non => cases h.non; have e : toPy .non = some p := e; unfold toPy at e; cases e; exact .non
  | bl b => cases h.bl; have e : toPy (.bl b) = some p := e; unfold toPy at e; cases e; exact .bl b
  | int b => cases h.int; have e : toPy (.int b) = some p := e; unfold toPy at e; cases e; exact .int b
  | str b => cases h.str; have e : toPy (.str b) = some p := e; unfold toPy at e; cases e; exact .str b
  | tup ds =>
    obtain ⟨a, xs, rfl, ha, q, _⟩ := h.tup
    have e : toPy (.tup ds) = some p := e
    unfold toPy at e
    split at e
    · rename_i ps e'; cases e; exact .tup (SqT.of ha) (dps_of ds xs ps q e')
    · cases e
  | set ds => have e : toPy (.set ds) = some p := e; unfold toPy at e; cases e
  | obj a => have e : toPy (.obj a) = some p := e; unfold toPy at e; cases e
end
end G
end
section
set_option Elab.async false
set_option linter.all false
set_option maxRecDepth 100000
namespace G
open PySem PySem.Spec L2
def fAdd : P2 := fun a b Q => match a.2, b.2 with
  | .int i, .int j => Q (.sh, .int (i + j))
  | .str x, .str y => x.length + y.length ≤ sizeLine ∧ Q (.sh, .str (x ++ y))
  | .lst xs, .lst ys => a.1 ≠ .fr ∧ b.1 ≠ .fr ∧ xs.length + ys.length ≤ sizeLine ∧ Q (.ow, .lst (xs ++ ys))
  | .tup xs, .tup ys => xs.length + ys.length ≤ sizeLine ∧ Q (.sh, .tup (xs ++ ys))
  | _, _ => False
def rAddA (K : PySem.W.Frag) : R2 := fun x y H Q => rI0 (fun i j => .int (i + j)) x y H Q ∨ (∃ i j, x = .str i ∧ y = .str j ∧ i.length + j.length ≤ sizeLine ∧ Q (.str (i ++ j)) H) ∨ rCat x y H Q ∨ rCatA K x y H Q
def MulOk (i j : Int) : Prop := IntMulOk i j
def fMul : P2 := fun a b Q => match a.2, b.2 with
  | .int i, .int j => MulOk i j ∧ Q (.sh, .int (i * j))
  | .lst xs, .int k => a.1 ≠ .fr ∧ -(2 ^ 63) ≤ k ∧ k < 2 ^ 63 ∧ xs.length * k.toNat ≤ sizeLine ∧ Q (.ow, .lst (List.replicate k.toNat xs).flatten)
  | _, _ => False
def rMulA : R2 := fun x y H Q => rI MulOk (fun i j => .int (i * j)) x y H Q ∨ rRep x y H Q
def fSub : P2 := fun a b Q => match a.2, b.2 with
  | .int i, .int j => Q (.sh, .int (i - j))
  | _, _ => False
def DivOk (j : Int) : Prop := 0 < j ∧ j.natAbs.log2 < 9000
def fDiv : P2 := fun a b Q => match a.2, b.2 with
  | .int i, .int j => DivOk j ∧ Q (.sh, .int (i / j))
  | _, _ => False
def fMod : P2 := fun a b Q => match a.2, b.2 with
  | .int i, .int j => 0 < j ∧ Q (.sh, .int (i % j))
  | _, _ => False
def PowOk (i j : Int) : Prop := 0 ≤ j ∧ j ≤ 1000000 ∧ i.natAbs < 2 ^ 64
def fPow : P2 := fun a b Q => match a.2, b.2 with
  | .int i, .int j => PowOk i j ∧ Q (.sh, .int (i ^ j.toNat))
  | _, _ => False
def fShr : P2 := fun a b Q => match a.2, b.2 with
  | .int i, .int j => 0 ≤ j ∧ Q (.sh, .int (i / 2 ^ j.toNat))
  | _, _ => False
def ShlOk (i j : Int) : Prop := 0 ≤ j ∧ (Builtin.Int.intBits i : Int) + j ≤ 2 ^ 27
def fShl : P2 := fun a b Q => match a.2, b.2 with
  | .int i, .int j => ShlOk i j ∧ Q (.sh, .int (i * 2 ^ j.toNat))
  | _, _ => False
def fAnd : P2 := fun a b Q => match a.2, b.2 with
  | .int i, .int j => Q (.sh, .int (Builtin.bitAnd i j))
  | _, _ => False
theorem dv_int {H : Hp} {O : Addr → Prop} {i : Int} : DV H O (.int i) (.int i) := by unfold DV; rfl
theorem dv_bl {H : Hp} {O : Addr → Prop} {i : Bool} : DV H O (.bl i) (.bl i) := by unfold DV; rfl
theorem dv_str {H : Hp} {O : Addr → Prop} {i : Str} : DV H O (.str i) (.str i) := by unfold DV; rfl
theorem dv_non {H : Hp} {O : Addr → Prop} : DV H O .non .non := by unfold DV; rfl
theorem dv_tup {H : Hp} {O : Addr → Prop} {ds : List D} {p : Addr} {xs : List V} (h : H p = some (.tup xs)) (n : ¬ O p) (r : DVs H O ds xs) : DV H O (.tup ds) (.ref p) := by unfold DV; exact ⟨p, xs, rfl, n, h, r⟩
theorem mono_m2 {f : P2} (h : ∀ (a b : R) (Q Q' : R → Prop), (∀ r, Q r → Q' r) → f a b Q → f a b Q') : Mono2 f := h
section
variable {X : Cx}
theorem op_addA : OpR X (binaryOp .Add) (rAddA X.K) := op_add.or (op_add_str.or (op_cat.or op_catA))
theorem fAdd.mono : Mono2 fAdd := fun a b Q Q' h q => by
  unfold fAdd at q ⊢
  split at q
  · exact h _ q
  · exact ⟨q.1, h _ q.2⟩
  · exact ⟨q.1, q.2.1, q.2.2.1, h _ q.2.2.2⟩
  · exact ⟨q.1, h _ q.2⟩
  · exact q.elim
theorem nil_of {H : Hp} {O : Addr → Prop} {ds : List D} {xs : List V} (r : DVs H O ds xs) : ds = [] ↔ xs = [] := by
  have := r.len
  cases ds <;> cases xs <;> simp_all
theorem fAdd.ok {K : PySem.W.Frag} : POk2 (rAddA K) fAdd := by
  rintro O H ⟨m, a⟩ ⟨n, b⟩ x y Qd Q off va vb q k
  unfold fAdd at q
  split at q
  · rename_i i j e1 e2; cases e1; cases e2; cases va.int; cases vb.int
    exact .inl ⟨i, j, rfl, rfl, k _ _ _ _ q (.val dv_int)⟩
  · rename_i i j e1 e2; cases e1; cases e2; cases va.str; cases vb.str
    exact .inr (.inl ⟨i, j, rfl, rfl, q.1, k _ _ _ _ q.2 (.val dv_str)⟩)
  · rename_i i j e1 e2; cases e1; cases e2
    obtain ⟨p, xs, rfl, hp, r⟩ := va.lstT q.1
    obtain ⟨p2, ys, rfl, hp2, r2⟩ := vb.lstT q.2.1
    refine .inr (.inr (.inl ⟨p, p2, xs, ys, rfl, rfl, hp, hp2, by rw [r.len, r2.len]; exact q.2.2.1, fun l hl => k _ _ _ _ q.2.2.2 (.lst hl (r.app r2))⟩))
  · rename_i i j e1 e2; cases e1; cases e2
    obtain ⟨p, xs, rfl, hp, r, np⟩ := va.tup
    obtain ⟨p2, ys, rfl, hp2, r2, np2⟩ := vb.tup
    refine .inr (.inr (.inr ⟨p, p2, xs, ys, rfl, rfl, SqT.of hp, SqT.of hp2, by rw [r.len, r2.len]; exact q.1, fun e => ?_, fun e1 e2 => ?_, fun _ _ l hl => k _ _ _ _ q.2 (.tup hl (off l hl) (r.app r2))⟩))
    · have := (nil_of r).mpr e; subst this
      exact k _ _ _ _ q.2 (.val (dv_tup hp2 np2 (by simpa using r2)))
    · have := (nil_of r2).mpr e2; subst this
      exact k _ _ _ _ q.2 (.val (dv_tup hp np (by simpa using r)))
  · exact q.elim
theorem op_mulA : OpR X (binaryOp .Mult) rMulA := OpR.or (opI fun _ _ _ _ _ _ _ hc q => PyProof.Rows.mul_int q hc) op_rep
theorem fMul.mono : Mono2 fMul := fun a b Q Q' h q => by
  unfold fMul at q ⊢
  split at q
  · exact ⟨q.1, h _ q.2⟩
  · exact ⟨q.1, q.2.1, q.2.2.1, q.2.2.2.1, h _ q.2.2.2.2⟩
  · exact q.elim
theorem fMul.ok : POk2 rMulA fMul := by
  rintro O H ⟨m, a⟩ ⟨n, b⟩ x y Qd Q off va vb q k
  unfold fMul at q
  split at q
  · rename_i i j e1 e2; cases e1; cases e2; cases va.int; cases vb.int
    exact .inl ⟨i, j, rfl, rfl, q.1, k _ _ _ _ q.2 (.val dv_int)⟩
  · rename_i i j e1 e2; cases e1; cases e2; cases vb.int
    obtain ⟨p, xs, rfl, hp, r⟩ := va.lstT q.1
    exact .inr ⟨p, j, xs, rfl, rfl, hp, q.2.1, q.2.2.1, by rw [r.len]; exact q.2.2.2.1, fun l hl => k _ _ _ _ q.2.2.2.2 (.lst hl (r.rep _))⟩
  · exact q.elim
theorem fSub.mono : Mono2 fSub := fun a b Q Q' h q => by
  unfold fSub at q ⊢
  split at q
  · exact h _ q
  · exact q.elim
theorem fSub.ok : POk2 (rI0 fun i j => .int (i - j)) fSub := by
  rintro O H ⟨m, a⟩ ⟨n, b⟩ x y Qd Q off va vb q k
  unfold fSub at q
  split at q
  · rename_i i j e1 e2; cases e1; cases e2; cases va.int; cases vb.int
    exact ⟨i, j, rfl, rfl, k _ _ _ _ q (.val dv_int)⟩
  · exact q.elim
theorem fAnd.mono : Mono2 fAnd := fun a b Q Q' h q => by
  unfold fAnd at q ⊢
  split at q
  · exact h _ q
  · exact q.elim
theorem fAnd.ok : POk2 (rI0 fun i j => .int (Builtin.bitAnd i j)) fAnd := by
  rintro O H ⟨m, a⟩ ⟨n, b⟩ x y Qd Q off va vb q k
  unfold fAnd at q
  split at q
  · rename_i i j e1 e2; cases e1; cases e2; cases va.int; cases vb.int
    exact ⟨i, j, rfl, rfl, k _ _ _ _ q (.val dv_int)⟩
  · exact q.elim
theorem okI {f : P2} {C : Int → Int → Prop} {g : Int → Int → Int} (hf : ∀ a b Q, f a b Q → ∃ i j, a.2 = .int i ∧ b.2 = .int j ∧ C i j ∧ Q (.sh, .int (g i j))) : POk2 (rI C fun i j => .int (g i j)) f := by
  rintro O H ⟨m, a⟩ ⟨n, b⟩ x y Qd Q off va vb q k
  obtain ⟨i, j, e1, e2, c, q2⟩ := hf _ _ _ q
  cases e1; cases e2; cases va.int; cases vb.int
  exact ⟨i, j, rfl, rfl, c, k _ _ _ _ q2 (.val dv_int)⟩
theorem fDiv.mono : Mono2 fDiv := fun a b Q Q' h q => by
  unfold fDiv at q ⊢
  split at q
  · exact ⟨q.1, h _ q.2⟩
  · exact q.elim
theorem fDiv.ok : POk2 (rI CDivW fun i j => .int (i / j)) fDiv := okI fun a b Q q => by
  unfold fDiv at q
  split at q
  · rename_i i j e1 e2; exact ⟨i, j, e1, e2, q.1, q.2⟩
  · exact q.elim
theorem fMod.mono : Mono2 fMod := fun a b Q Q' h q => by
  unfold fMod at q ⊢
  split at q
  · exact ⟨q.1, h _ q.2⟩
  · exact q.elim
theorem fMod.ok : POk2 (rI (fun _ j => 0 < j) fun i j => .int (i % j)) fMod := okI fun a b Q q => by
  unfold fMod at q
  split at q
  · rename_i i j e1 e2; exact ⟨i, j, e1, e2, q.1, q.2⟩
  · exact q.elim
theorem fPow.mono : Mono2 fPow := fun a b Q Q' h q => by
  unfold fPow at q ⊢
  split at q
  · exact ⟨q.1, h _ q.2⟩
  · exact q.elim
theorem fPow.ok : POk2 (rI CPow fun i j => .int (i ^ j.toNat)) fPow := okI fun a b Q q => by
  unfold fPow at q
  split at q
  · rename_i i j e1 e2; exact ⟨i, j, e1, e2, q.1, q.2⟩
  · exact q.elim
theorem fShr.mono : Mono2 fShr := fun a b Q Q' h q => by
  unfold fShr at q ⊢
  split at q
  · exact ⟨q.1, h _ q.2⟩
  · exact q.elim
theorem fShr.ok : POk2 (rI (fun _ j => 0 ≤ j) fun i j => .int (i / 2 ^ j.toNat)) fShr := okI fun a b Q q => by
  unfold fShr at q
  split at q
  · rename_i i j e1 e2; exact ⟨i, j, e1, e2, q.1, q.2⟩
  · exact q.elim
theorem fShl.mono : Mono2 fShl := fun a b Q Q' h q => by
  unfold fShl at q ⊢
  split at q
  · exact ⟨q.1, h _ q.2⟩
  · exact q.elim
theorem fShl.ok : POk2 (rI CShl fun i j => .int (i * 2 ^ j.toNat)) fShl := okI fun a b Q q => by
  unfold fShl at q
  split at q
  · rename_i i j e1 e2; exact ⟨i, j, e1, e2, q.1, q.2⟩
  · exact q.elim
end
def fCmp (p : Int → Int → Bool) : P2 := fun a b Q => match a.2, b.2 with
  | .int i, .int j => Q (.sh, .bl (p i j))
  | _, _ => False
theorem fCmp.mono (p : Int → Int → Bool) : Mono2 (fCmp p) := fun a b Q Q' h q => by
  unfold fCmp at q ⊢
  split at q
  · exact h _ q
  · exact q.elim
theorem fCmp.ok (p : Int → Int → Bool) : POk2 (rI0 fun i j => .bl (p i j)) (fCmp p) := by
  rintro O H ⟨m, a⟩ ⟨n, b⟩ x y Qd Q off va vb q k
  unfold fCmp at q
  split at q
  · rename_i i j e1 e2; cases e1; cases e2; cases va.int; cases vb.int
    exact ⟨i, j, rfl, rfl, k _ _ _ _ q (.val dv_bl)⟩
  · exact q.elim
def fEq (neg : Bool) : P2 := fun a b Q => match a.2, b.2 with
  | .int i, .int j => Q (.sh, .bl (neg ^^ decide (i = j)))
  | .str x, .str y => Q (.sh, .bl (neg ^^ decide (x = y)))
  | .bl x, .bl y => Q (.sh, .bl (neg ^^ decide (x = y)))
  | d, e => match toPy d, toPy e with
    | some p, some q => SeqAt.shaped p = true ∧ SeqAt.shaped q = true ∧ Q (.sh, .bl (neg ^^ PyData.eqv p q))
    | _, _ => False
def rEqA (K : PySem.W.Frag) : R2 := fun x y H Q => rEq x y H Q ∨ rEqD K x y H Q
def rNeA (K : PySem.W.Frag) : R2 := fun x y H Q => rNe x y H Q ∨ rNeD K x y H Q
theorem fEq.mono (neg : Bool) : Mono2 (fEq neg) := fun a b Q Q' h q => by
  unfold fEq at q ⊢
  split at q
  · exact h _ q
  · exact h _ q
  · exact h _ q
  · split at q
    · exact ⟨q.1, q.2.1, h _ q.2.2⟩
    · exact q.elim
section
variable {X : Cx}
theorem op_eqA (hu : X.A.units + 64 < cLine) : OpR X (compareOp .Eq) (rEqA X.K) := op_eq.or (op_eqD hu)
theorem op_neA (hu : X.A.units + 64 < cLine) : OpR X (compareOp .NotEq) (rNeA X.K) := op_ne.or (op_neD hu)
theorem dec_vint {i j : Int} : decide (V.int i = V.int j) = decide (i = j) := by
  by_cases h : i = j <;> simp [h]
theorem dec_vstr {i j : Str} : decide (V.str i = V.str j) = decide (i = j) := by
  by_cases h : i = j <;> simp [h]
theorem dec_vbl {i j : Bool} : decide (V.bl i = V.bl j) = decide (i = j) := by
  by_cases h : i = j <;> simp [h]
theorem fEq.ok {K : PySem.W.Frag} : POk2 (rEqA K) (fEq false) := by
  rintro O H ⟨m, a⟩ ⟨n, b⟩ x y Qd Q off va vb q k
  unfold fEq at q
  split at q
  · rename_i i j e1 e2; cases e1; cases e2; cases va.int; cases vb.int
    exact .inl ⟨rfl, by rw [dec_vint]; exact k _ _ _ _ q (.val (by rw [Bool.false_xor]; exact dv_bl))⟩
  · rename_i i j e1 e2; cases e1; cases e2; cases va.str; cases vb.str
    exact .inl ⟨rfl, by rw [dec_vstr]; exact k _ _ _ _ q (.val (by rw [Bool.false_xor]; exact dv_bl))⟩
  · rename_i i j e1 e2; cases e1; cases e2; cases va.bl; cases vb.bl
    exact .inl ⟨rfl, by rw [dec_vbl]; exact k _ _ _ _ q (.val (by rw [Bool.false_xor]; exact dv_bl))⟩
  · split at q
    · rename_i p r e1 e2
      exact .inr ⟨p, r, va.dp e1, vb.dp e2, q.1, q.2.1, k _ _ _ _ q.2.2 (.val (by rw [Bool.false_xor]; exact dv_bl))⟩
    · exact q.elim
theorem fNe.ok {K : PySem.W.Frag} : POk2 (rNeA K) (fEq true) := by
  rintro O H ⟨m, a⟩ ⟨n, b⟩ x y Qd Q off va vb q k
  unfold fEq at q
  split at q
  · rename_i i j e1 e2; cases e1; cases e2; cases va.int; cases vb.int
    exact .inl ⟨rfl, by rw [dec_vint]; exact k _ _ _ _ q (.val (by rw [Bool.true_xor]; exact dv_bl))⟩
  · rename_i i j e1 e2; cases e1; cases e2; cases va.str; cases vb.str
    exact .inl ⟨rfl, by rw [dec_vstr]; exact k _ _ _ _ q (.val (by rw [Bool.true_xor]; exact dv_bl))⟩
  · rename_i i j e1 e2; cases e1; cases e2; cases va.bl; cases vb.bl
    exact .inl ⟨rfl, by rw [dec_vbl]; exact k _ _ _ _ q (.val (by rw [Bool.true_xor]; exact dv_bl))⟩
  · split at q
    · rename_i p r e1 e2
      exact .inr ⟨p, r, va.dp e1, vb.dp e2, q.1, q.2.1, k _ _ _ _ q.2.2 (.val (by rw [Bool.true_xor]; exact dv_bl))⟩
    · exact q.elim
end
def D.isNon : D → Bool
  | .non => true
  | _ => false
def fIs (neg : Bool) : P2 := fun a b Q => match b.2 with
  | .non => Q (.sh, .bl (neg ^^ a.2.isNon))
  | .bl y => match a.2 with
    | .bl x => Q (.sh, .bl (neg ^^ decide (x = y)))
    | _ => False
  | _ => False
theorem fIs.mono (neg : Bool) : Mono2 (fIs neg) := fun a b Q Q' h q => by
  unfold fIs at q ⊢
  split at q
  · exact h _ q
  · split at q
    · exact h _ q
    · exact q.elim
  · exact q.elim
def rIsA : R2 := fun x y H Q => (y = .non ∧ Q (.bl (decide (x = .non))) H) ∨ rIsB x y H Q
def rNotA : R2 := fun x y H Q => (y = .non ∧ Q (.bl (!decide (x = .non))) H) ∨ rNotB x y H Q
theorem Vw.isNon {H : Hp} {O : Addr → Prop} {r : R} {v : V} (h : Vw H O r v) : decide (v = .non) = r.2.isNon := by
  obtain ⟨m, d⟩ := r
  cases d with
  | non => cases h.non; rfl
  | bl b => cases h.bl; rfl
  | int b => cases h.int; rfl
  | str b => cases h.str; rfl
  | lst b => obtain ⟨p, xs, rfl, _⟩ := h.lst; rfl
  | tup b => obtain ⟨p, xs, rfl, _⟩ := h.tup; rfl
  | dct b => cases m with
    | fr => obtain ⟨_, _, _, _, e, _⟩ := h; cases e
    | _ => obtain ⟨a, rfl, _⟩ := h.cv (by decide); rfl
  | set b => cases m with
    | fr => obtain ⟨_, _, _, _, e, _⟩ := h; cases e
    | _ => have h : DV H O (.set b) v := h; unfold DV at h; exact h.elim
  | obj b => cases m with
    | fr => obtain ⟨_, _, _, _, e, _⟩ := h; cases e
    | _ => have h : DV H O (.obj b) v := h; unfold DV at h; subst h; rfl
section
variable {X : Cx}
theorem op_isA : OpR X (compareOp .Is) rIsA := op_isN.or op_isBl
theorem op_notA : OpR X (compareOp .IsNot) rNotA := op_notN.or op_notBl
theorem fIs.ok : POk2 rIsA (fIs false) := by
  rintro O H ⟨m, a⟩ ⟨n, b⟩ x y Qd Q off va vb q k
  unfold fIs at q
  split at q
  · rename_i e2; cases e2; cases vb.non
    exact .inl ⟨rfl, by rw [va.isNon]; exact k _ _ _ _ q (.val (by rw [Bool.false_xor]; exact dv_bl))⟩
  · rename_i j e2; cases e2; cases vb.bl
    split at q
    · rename_i i e1; cases e1; cases va.bl
      exact .inr ⟨i, j, rfl, rfl, k _ _ _ _ q (.val (by rw [Bool.false_xor]; exact dv_bl))⟩
    · exact q.elim
  · exact q.elim
theorem fNot.ok : POk2 rNotA (fIs true) := by
  rintro O H ⟨m, a⟩ ⟨n, b⟩ x y Qd Q off va vb q k
  unfold fIs at q
  split at q
  · rename_i e2; cases e2; cases vb.non
    exact .inl ⟨rfl, by rw [va.isNon]; exact k _ _ _ _ q (.val (by rw [Bool.true_xor]; exact dv_bl))⟩
  · rename_i j e2; cases e2; cases vb.bl
    split at q
    · rename_i i e1; cases e1; cases va.bl
      exact .inr ⟨i, j, rfl, rfl, k _ _ _ _ q (.val (by rw [Bool.true_xor]; exact dv_bl))⟩
    · exact q.elim
  · exact q.elim
end
def fIx : P2 := fun a b Q => match a.2, b.2 with
  | .lst xs, .int i => match atI xs i with
    | some d => Q (.sh, d)
    | none => False
  | .tup xs, .int i => match atI xs i with
    | some d => Q (.sh, d)
    | none => False
  | .str z, .int i => match atI z.cps.toList i with
    | some c => z.length ≤ sizeLine ∧ Q (.sh, .str ⟨#[c]⟩)
    | none => False
  | _, _ => False
theorem fIx.mono : Mono2 fIx := fun a b Q Q' h q => by
  unfold fIx at q ⊢
  split at q
  · split at q
    · exact h _ q
    · exact q.elim
  · split at q
    · exact h _ q
    · exact q.elim
  · split at q
    · exact ⟨q.1, h _ q.2⟩
    · exact q.elim
  · exact q.elim
theorem atI_dvs {H : Hp} {O : Addr → Prop} {ds : List D} {xs : List V} {i : Int} {d : D} (r : DVs H O ds xs) (e : atI ds i = some d) : ∃ x, atI xs i = some x ∧ DV H O d x := by
  unfold atI at e ⊢
  rw [r.len]
  cases q : ixN ds.length i with
  | none => rw [q] at e; cases e
  | some j =>
    rw [q] at e
    exact r.get e
theorem fIx.ok {K : PySem.W.Frag} : POk2 (rIx K) fIx := by
  rintro O H ⟨m, a⟩ ⟨n, b⟩ x y Qd Q off va vb q k
  unfold fIx at q
  split at q
  · rename_i i j e1 e2; cases e1; cases e2; cases vb.int
    obtain ⟨p, xs, rfl, hp, r⟩ := va.lst
    split at q
    · rename_i d e
      obtain ⟨z, hz, dz⟩ := atI_dvs r e
      exact .inl ⟨p, xs, j, z, rfl, rfl, sqL_of hp, hz, k _ _ _ _ q (.val dz)⟩
    · exact q.elim
  · rename_i i j e1 e2; cases e1; cases e2; cases vb.int
    obtain ⟨p, xs, rfl, hp, r, _⟩ := va.tup
    split at q
    · rename_i d e
      obtain ⟨z, hz, dz⟩ := atI_dvs r e
      exact .inr (.inl ⟨p, xs, j, z, rfl, rfl, SqT.of hp, hz, k _ _ _ _ q (.val dz)⟩)
    · exact q.elim
  · rename_i i j e1 e2; cases e1; cases e2; cases vb.int; cases va.str
    split at q
    · rename_i c e
      exact .inr (.inr ⟨i, j, c, rfl, rfl, q.1, e, k _ _ _ _ q.2 (.val dv_str)⟩)
    · exact q.elim
  · exact q.elim
end G
end
section
set_option Elab.async false
set_option linter.all false
set_option maxRecDepth 100000
namespace G
open PySem PySem.Spec L2
theorem callR_or {X : Cx} {f : Value} {r r' : List V → Hp → VK → Prop} (h : CallR X f r) (h' : CallR X f r') : CallR X f (fun xs H Q => r xs H Q ∨ r' xs H Q) := fun pins s σ H xs us Q I rv q => by
  rcases q with q | q
  · exact h pins s σ H xs us Q I rv q
  · exact h' pins s σ H xs us Q I rv q
theorem vws1 {H : Hp} {O : Addr → Prop} {r : R} {vs : List V} (h : Vws H O [r] vs) : ∃ v, vs = [v] ∧ Vw H O r v := by
  obtain ⟨v, w, rfl, h1, h2⟩ := h
  have h2 : w = [] := h2
  subst h2
  exact ⟨v, rfl, h1⟩
theorem vws2 {H : Hp} {O : Addr → Prop} {r s : R} {vs : List V} (h : Vws H O [r, s] vs) : ∃ v w, vs = [v, w] ∧ Vw H O r v ∧ Vw H O s w := by
  obtain ⟨v, w, rfl, h1, h2⟩ := h
  obtain ⟨u, rfl, h3⟩ := vws1 h2
  exact ⟨v, u, rfl, h1, h3⟩
def fLen : PN := fun rs Q => match rs with
  | [(_, .lst xs)] => Q (.sh, .int xs.length)
  | [(_, .tup xs)] => Q (.sh, .int xs.length)
  | [(_, .str z)] => z.length ≤ sizeLine ∧ Q (.sh, .int z.length)
  | _ => False
theorem fLen.mono : MonoN fLen := fun rs Q Q' h q => by
  unfold fLen at q ⊢
  split at q
  · exact h _ q
  · exact h _ q
  · exact ⟨q.1, h _ q.2⟩
  · exact q.elim
def rLenA (K : PySem.W.Frag) : List V → Hp → VK → Prop := fun xs H Q => (∃ p ys, xs = [.ref p] ∧ (SqL K H p ys ∨ SqT K H p ys) ∧ Q (.int ys.length) H) ∨ (∃ z, xs = [.str z] ∧ z.length ≤ sizeLine ∧ Q (.int z.length) H)
theorem call_lenA {X : Cx} : CallR X (.builtin "len") (rLenA X.K) := callR_or call_len_seq call_len_str
theorem fLen.ok {K : PySem.W.Frag} : POk (rLenA K) fLen := by
  intro O H rs vs Qd Q off va q k
  unfold fLen at q
  split at q
  · obtain ⟨v, rfl, h⟩ := vws1 va
    obtain ⟨p, xs, rfl, hp, r⟩ := h.lst
    exact .inl ⟨p, xs, rfl, .inl (sqL_of hp), by rw [r.len]; exact k _ _ _ _ q (.val dv_int)⟩
  · obtain ⟨v, rfl, h⟩ := vws1 va
    obtain ⟨p, xs, rfl, hp, r, _⟩ := h.tup
    exact .inl ⟨p, xs, rfl, .inr (SqT.of hp), by rw [r.len]; exact k _ _ _ _ q (.val dv_int)⟩
  · obtain ⟨v, rfl, h⟩ := vws1 va
    cases h.str
    exact .inr ⟨_, rfl, q.1, k _ _ _ _ q.2 (.val dv_int)⟩
  · exact q.elim
def fAbs : PN := fun rs Q => match rs with
  | [(_, .int i)] => Q (.sh, .int (if i < 0 then -i else i))
  | _ => False
theorem fAbs.mono : MonoN fAbs := fun rs Q Q' h q => by
  unfold fAbs at q ⊢
  split at q
  · exact h _ q
  · exact q.elim
theorem fAbs.ok : POk (fun xs H Q => ∃ i, xs = [.int i] ∧ Q (.int (if i < 0 then -i else i)) H) fAbs := by
  intro O H rs vs Qd Q off va q k
  unfold fAbs at q
  split at q
  · obtain ⟨v, rfl, h⟩ := vws1 va
    cases h.int
    exact ⟨_, rfl, k _ _ _ _ q (.val dv_int)⟩
  · exact q.elim
def fIntOf : PN := fun rs Q => match rs with
  | [(_, .int i)] => Q (.sh, .int i)
  | [(_, .bl b)] => Q (.sh, .int (if b then 1 else 0))
  | _ => False
theorem fIntOf.mono : MonoN fIntOf := fun rs Q Q' h q => by
  unfold fIntOf at q ⊢
  split at q
  · exact h _ q
  · exact h _ q
  · exact q.elim
theorem fIntOf.ok : POk (fun xs H Q => (∃ i, xs = [.int i] ∧ Q (.int i) H) ∨ ∃ k, xs = [.bl k] ∧ Q (.int (if k then 1 else 0)) H) fIntOf := by
  intro O H rs vs Qd Q off va q k
  unfold fIntOf at q
  split at q
  · obtain ⟨v, rfl, h⟩ := vws1 va
    cases h.int
    exact .inl ⟨_, rfl, k _ _ _ _ q (.val dv_int)⟩
  · obtain ⟨v, rfl, h⟩ := vws1 va
    cases h.bl
    exact .inr ⟨_, rfl, k _ _ _ _ q (.val dv_int)⟩
  · exact q.elim
def maxL : List Int → Int
  | [] => 0
  | x :: xs => xs.foldl (fun a b => if b > a then b else a) x
def minL : List Int → Int
  | [] => 0
  | x :: xs => xs.foldl (fun a b => if b < a then b else a) x
theorem foldMax : ∀ (xs : List Int) (x : Int), (xs.foldl (fun a b => if b > a then b else a) x = x ∨ xs.foldl (fun a b => if b > a then b else a) x ∈ xs) ∧ x ≤ xs.foldl (fun a b => if b > a then b else a) x ∧ ∀ y ∈ xs, y ≤ xs.foldl (fun a b => if b > a then b else a) x
  | [], x => ⟨.inl rfl, Int.le_refl _, fun y h => nomatch h⟩
  | z :: xs, x => by
    rw [List.foldl_cons]
    obtain ⟨h1, h2, h3⟩ := foldMax xs (if z > x then z else x)
    refine ⟨?_, ?_, fun y hy => ?_⟩
    · rcases h1 with h1 | h1
      · rw [h1]; split
        · exact .inr List.mem_cons_self
        · exact .inl rfl
      · exact .inr (List.mem_cons_of_mem _ h1)
    · split at h2 <;> rename_i c
      · rw [if_pos c]; omega
      · rw [if_neg c]; exact h2
    · rcases List.mem_cons.mp hy with rfl | hy
      · split at h2 <;> rename_i c
        · rw [if_pos c]; exact h2
        · rw [if_neg c]; omega
      · exact h3 y hy
theorem foldMin : ∀ (xs : List Int) (x : Int), (xs.foldl (fun a b => if b < a then b else a) x = x ∨ xs.foldl (fun a b => if b < a then b else a) x ∈ xs) ∧ xs.foldl (fun a b => if b < a then b else a) x ≤ x ∧ ∀ y ∈ xs, xs.foldl (fun a b => if b < a then b else a) x ≤ y
  | [], x => ⟨.inl rfl, Int.le_refl _, fun y h => nomatch h⟩
  | z :: xs, x => by
    rw [List.foldl_cons]
    obtain ⟨h1, h2, h3⟩ := foldMin xs (if z < x then z else x)
    refine ⟨?_, ?_, fun y hy => ?_⟩
    · rcases h1 with h1 | h1
      · rw [h1]; split
        · exact .inr List.mem_cons_self
        · exact .inl rfl
      · exact .inr (List.mem_cons_of_mem _ h1)
    · split at h2 <;> rename_i c
      · rw [if_pos c]; omega
      · rw [if_neg c]; exact h2
    · rcases List.mem_cons.mp hy with rfl | hy
      · split at h2 <;> rename_i c
        · rw [if_pos c]; exact h2
        · rw [if_neg c]; omega
      · exact h3 y hy
theorem maxL_mem {ns : List Int} (h : ns ≠ []) : maxL ns ∈ ns := by
  cases ns with
  | nil => exact absurd rfl h
  | cons x xs =>
    rcases (foldMax xs x).1 with e | e
    · show List.foldl _ _ _ ∈ _; rw [e]; exact List.mem_cons_self
    · exact List.mem_cons_of_mem _ e
theorem maxL_ge {ns : List Int} {y : Int} (h : y ∈ ns) : y ≤ maxL ns := by
  cases ns with
  | nil => exact nomatch h
  | cons x xs =>
    rcases List.mem_cons.mp h with rfl | h
    · exact (foldMax xs y).2.1
    · exact (foldMax xs x).2.2 y h
theorem minL_mem {ns : List Int} (h : ns ≠ []) : minL ns ∈ ns := by
  cases ns with
  | nil => exact absurd rfl h
  | cons x xs =>
    rcases (foldMin xs x).1 with e | e
    · show List.foldl _ _ _ ∈ _; rw [e]; exact List.mem_cons_self
    · exact List.mem_cons_of_mem _ e
theorem minL_le {ns : List Int} {y : Int} (h : y ∈ ns) : minL ns ≤ y := by
  cases ns with
  | nil => exact nomatch h
  | cons x xs =>
    rcases List.mem_cons.mp h with rfl | h
    · exact (foldMin xs y).2.1
    · exact (foldMin xs x).2.2 y h
def fMax : PN := fun rs Q => match rs with
  | [(_, .int i), (_, .int j)] => Q (.sh, .int (if j > i then j else i))
  | [(_, .lst xs)] => match intsOf xs with
    | some ns => 0 < ns.length ∧ Q (.sh, .int (maxL ns))
    | none => False
  | _ => False
def fMin : PN := fun rs Q => match rs with
  | [(_, .int i), (_, .int j)] => Q (.sh, .int (if j < i then j else i))
  | [(_, .lst xs)] => match intsOf xs with
    | some ns => 0 < ns.length ∧ Q (.sh, .int (minL ns))
    | none => False
  | _ => False
theorem fMax.mono : MonoN fMax := fun rs Q Q' h q => by
  unfold fMax at q ⊢
  split at q
  · exact h _ q
  · split at q
    · exact ⟨q.1, h _ q.2⟩
    · exact q.elim
  · exact q.elim
theorem fMin.mono : MonoN fMin := fun rs Q Q' h q => by
  unfold fMin at q ⊢
  split at q
  · exact h _ q
  · split at q
    · exact ⟨q.1, h _ q.2⟩
    · exact q.elim
  · exact q.elim
def rMaxA (K : PySem.W.Frag) : List V → Hp → VK → Prop := fun xs H Q => (∃ i j, xs = [.int i, .int j] ∧ Q (.int (if j > i then j else i)) H) ∨ rMax K xs H Q
def rMinA (K : PySem.W.Frag) : List V → Hp → VK → Prop := fun xs H Q => (∃ i j, xs = [.int i, .int j] ∧ Q (.int (if j < i then j else i)) H) ∨ rMin K xs H Q
theorem call_maxA {X : Cx} (hc : X.calm = true) : CallR X (.builtin "max") (rMaxA X.K) := callR_or (call_max2 hc) (cr_max hc)
theorem call_minA {X : Cx} (hc : X.calm = true) : CallR X (.builtin "min") (rMinA X.K) := callR_or (call_min2 hc) (cr_min hc)
theorem ne_of_len {α : Type} {l : List α} (h : 0 < l.length) : l ≠ [] := fun e => by subst e; exact Nat.lt_irrefl 0 h
theorem fMax.ok {K : PySem.W.Frag} : POk (rMaxA K) fMax := by
  intro O H rs vs Qd Q off va q k
  unfold fMax at q
  split at q
  · obtain ⟨v, w, rfl, h, h'⟩ := vws2 va
    cases h.int; cases h'.int
    exact .inl ⟨_, _, rfl, k _ _ _ _ q (.val dv_int)⟩
  · split at q
    · rename_i ns e
      obtain ⟨v, rfl, h⟩ := vws1 va
      obtain ⟨p, xs, rfl, hp, r⟩ := h.lst
      have ex := r.intsOf e
      subst ex
      refine .inr ⟨p, ns, rfl, sqL_of hp, q.1, fun m hm hb => ?_⟩
      have e1 : m = maxL ns := by
        have h1 := maxL_ge hm
        have h2 := hb _ (maxL_mem (ne_of_len q.1))
        omega
      rw [e1]
      exact k _ _ _ _ q.2 (.val dv_int)
    · exact q.elim
  · exact q.elim
theorem fMin.ok {K : PySem.W.Frag} : POk (rMinA K) fMin := by
  intro O H rs vs Qd Q off va q k
  unfold fMin at q
  split at q
  · obtain ⟨v, w, rfl, h, h'⟩ := vws2 va
    cases h.int; cases h'.int
    exact .inl ⟨_, _, rfl, k _ _ _ _ q (.val dv_int)⟩
  · split at q
    · rename_i ns e
      obtain ⟨v, rfl, h⟩ := vws1 va
      obtain ⟨p, xs, rfl, hp, r⟩ := h.lst
      have ex := r.intsOf e
      subst ex
      refine .inr ⟨p, ns, rfl, sqL_of hp, q.1, fun m hm hb => ?_⟩
      have e1 : m = minL ns := by
        have h1 := minL_le hm
        have h2 := hb _ (minL_mem (ne_of_len q.1))
        omega
      rw [e1]
      exact k _ _ _ _ q.2 (.val dv_int)
    · exact q.elim
  · exact q.elim
theorem sum_tup {X : Cx} (hc : X.calm = true) : CallR X (.builtin "sum") (fun xs H Q => ∃ (a : Addr) (ns : List Int), xs = [V.ref a] ∧ SqT X.K H a (ns.map V.int) ∧ Q (.int ns.sum) H) := by
  intro pins s σ H vs us Q I r h
  obtain ⟨a, ns, rfl, hs, q⟩ := h
  obtain ⟨its, rv, ht, _⟩ := I.tuple hs
  obtain ⟨u, rfl, ru⟩ := vals1 r
  cases ru
  obtain ⟨xs, e⟩ := (intsAre_of rv).allInts.items
  have hn : numsOf (intItems xs).toList = ns := by rw [← e]; exact (intsAre_of rv).numsOf
  rw [nums_intItems] at hn
  rw [e] at ht
  refine PySem.W.ktm_sumG (I.ok.hd hc) (show s.heap.IsTuple a (intItems xs) from ht) fun h' tk t' hk => ⟨.int _, H, I.kept hk, ⟨t', ?_⟩, q⟩
  rw [preSum_eq, List.take_of_length_le (by simp), hn]
def fSum : PN := fun rs Q => match rs with
  | [(_, .lst xs)] => match intsOf xs with
    | some ns => Q (.sh, .int ns.sum)
    | none => False
  | [(_, .tup xs)] => match intsOf xs with
    | some ns => Q (.sh, .int ns.sum)
    | none => False
  | _ => False
theorem fSum.mono : MonoN fSum := fun rs Q Q' h q => by
  unfold fSum at q ⊢
  split at q
  · split at q
    · exact h _ q
    · exact q.elim
  · split at q
    · exact h _ q
    · exact q.elim
  · exact q.elim
def rSumA (K : PySem.W.Frag) : List V → Hp → VK → Prop := fun xs H Q => rSum K xs H Q ∨ (∃ (a : Addr) (ns : List Int), xs = [V.ref a] ∧ SqT K H a (ns.map V.int) ∧ Q (.int ns.sum) H)
theorem call_sumA {X : Cx} (hc : X.calm = true) : CallR X (.builtin "sum") (rSumA X.K) := callR_or (cr_sum hc) (sum_tup hc)
theorem fSum.ok {K : PySem.W.Frag} : POk (rSumA K) fSum := by
  intro O H rs vs Qd Q off va q k
  unfold fSum at q
  split at q
  · split at q
    · rename_i ns e
      obtain ⟨v, rfl, h⟩ := vws1 va
      obtain ⟨p, xs, rfl, hp, r⟩ := h.lst
      have ex := r.intsOf e
      subst ex
      exact .inl ⟨p, ns, rfl, sqL_of hp, k _ _ _ _ q (.val dv_int)⟩
    · exact q.elim
  · split at q
    · rename_i ns e
      obtain ⟨v, rfl, h⟩ := vws1 va
      obtain ⟨p, xs, rfl, hp, r, _⟩ := h.tup
      have ex := r.intsOf e
      subst ex
      exact .inr ⟨p, ns, rfl, SqT.of hp, k _ _ _ _ q (.val dv_int)⟩
    · exact q.elim
  · exact q.elim
def fAll : PN := fun rs Q => match rs with
  | [(_, .lst xs)] => match boolsOf xs with
    | some ns => Q (.sh, .bl (ns.all id))
    | none => False
  | _ => False
def fAny : PN := fun rs Q => match rs with
  | [(_, .lst xs)] => match boolsOf xs with
    | some ns => Q (.sh, .bl (ns.any id))
    | none => False
  | _ => False
theorem fAll.mono : MonoN fAll := fun rs Q Q' h q => by
  unfold fAll at q ⊢
  split at q
  · split at q
    · exact h _ q
    · exact q.elim
  · exact q.elim
theorem fAny.mono : MonoN fAny := fun rs Q Q' h q => by
  unfold fAny at q ⊢
  split at q
  · split at q
    · exact h _ q
    · exact q.elim
  · exact q.elim
theorem fAll.ok {K : PySem.W.Frag} : POk (rAll K) fAll := by
  intro O H rs vs Qd Q off va q k
  unfold fAll at q
  split at q
  · split at q
    · rename_i ns e
      obtain ⟨v, rfl, h⟩ := vws1 va
      obtain ⟨p, xs, rfl, hp, r⟩ := h.lst
      have ex := r.boolsOf e
      subst ex
      exact ⟨p, ns, rfl, sqL_of hp, k _ _ _ _ q (.val dv_bl)⟩
    · exact q.elim
  · exact q.elim
theorem fAny.ok {K : PySem.W.Frag} : POk (rAny K) fAny := by
  intro O H rs vs Qd Q off va q k
  unfold fAny at q
  split at q
  · split at q
    · rename_i ns e
      obtain ⟨v, rfl, h⟩ := vws1 va
      obtain ⟨p, xs, rfl, hp, r⟩ := h.lst
      have ex := r.boolsOf e
      subst ex
      exact ⟨p, ns, rfl, sqL_of hp, k _ _ _ _ q (.val dv_bl)⟩
    · exact q.elim
  · exact q.elim
def fListOf : PN := fun rs Q => match rs with
  | [(_, .lst xs)] => Q (.ow, .lst xs)
  | [(_, .tup xs)] => Q (.ow, .lst xs)
  | _ => False
def fTupOf : PN := fun rs Q => match rs with
  | [(_, .lst xs)] => Q (.sh, .tup xs)
  | [(_, .tup xs)] => Q (.sh, .tup xs)
  | _ => False
theorem fListOf.mono : MonoN fListOf := fun rs Q Q' h q => by
  unfold fListOf at q ⊢
  split at q
  · exact h _ q
  · exact h _ q
  · exact q.elim
theorem fTupOf.mono : MonoN fTupOf := fun rs Q Q' h q => by
  unfold fTupOf at q ⊢
  split at q
  · exact h _ q
  · exact h _ q
  · exact q.elim
theorem fListOf.ok {K : PySem.W.Frag} : POk (fun xs H Q => ∃ p ys, xs = [.ref p] ∧ (SqL K H p ys ∨ SqT K H p ys) ∧ ∀ l, H l = none → Q (.ref l) (upd H l (.lst ys))) fListOf := by
  intro O H rs vs Qd Q off va q k
  unfold fListOf at q
  split at q
  · obtain ⟨v, rfl, h⟩ := vws1 va
    obtain ⟨p, xs, rfl, hp, r⟩ := h.lst
    exact ⟨p, xs, rfl, .inl (sqL_of hp), fun l hl => k _ _ _ _ q (.lst hl r)⟩
  · obtain ⟨v, rfl, h⟩ := vws1 va
    obtain ⟨p, xs, rfl, hp, r, _⟩ := h.tup
    exact ⟨p, xs, rfl, .inr (SqT.of hp), fun l hl => k _ _ _ _ q (.lst hl r)⟩
  · exact q.elim
theorem fTupOf.ok {K : PySem.W.Frag} : POk (fun xs H Q => ∃ p ys, xs = [.ref p] ∧ ((SqL K H p ys ∧ ∀ l, H l = none → Q (.ref l) (upd H l (.tup ys))) ∨ (SqT K H p ys ∧ Q (.ref p) H))) fTupOf := by
  intro O H rs vs Qd Q off va q k
  unfold fTupOf at q
  split at q
  · obtain ⟨v, rfl, h⟩ := vws1 va
    obtain ⟨p, xs, rfl, hp, r⟩ := h.lst
    exact ⟨p, xs, rfl, .inl ⟨sqL_of hp, fun l hl => k _ _ _ _ q (.tup hl (off l hl) r)⟩⟩
  · obtain ⟨v, rfl, h⟩ := vws1 va
    obtain ⟨p, xs, rfl, hp, r, np⟩ := h.tup
    exact ⟨p, xs, rfl, .inr ⟨SqT.of hp, k _ _ _ _ q (.val (dv_tup hp np r))⟩⟩
  · exact q.elim
def rRepr (K : PySem.W.Frag) : List V → Hp → VK → Prop := fun xs H Q => ∃ x p, xs = [x] ∧ Dp K H x p ∧ p.showable = true ∧ p.hasDict = false ∧ p.depth ≤ 60 ∧ p.shown.length ≤ sizeLine ∧ Q (.str p.shown) H
theorem call_reprA {X : Cx} (hg : X.A.guards = some []) (hu : X.A.units + 64 < cLine) : CallR X (.builtin "repr") (rRepr X.K) := by
  intro pins s σ H xs us Q I r h
  obtain ⟨x, p, rfl, dp, hs, hd, hdp, hz, q⟩ := h
  obtain ⟨u, rfl, ru⟩ := vals1 r
  obtain ⟨as, rd⟩ := Dp.reads I p x u dp ru
  have ref : ∀ a, u = .ref a → wpAny (model X.prog X.w) X.A (call (.builtin "repr") [u]) (EP X pins σ Q) X.xe s := fun a e => by
    subst e
    exact repr_of_reads' rd hs (PyData.noDict_hsm hd) hg (by omega) (fun _ _ e => e) (fun h' u tk hk => ⟨.str p.shown, H, I.kept hk, ⟨u, rfl⟩, q⟩) hz
  cases dp with
  | non => cases ru; exact PySem.P.repr_of_none ⟨.str _, H, I.tok _, ⟨_, rfl⟩, q⟩
  | bl b => cases ru; exact PySem.P.repr_of_bool ⟨.str _, H, I.tok _, ⟨_, rfl⟩, q⟩
  | int i => obtain ⟨t, rfl⟩ := ru; exact PySem.P.repr_of_int (of_decide_eq_true hs) ⟨.str _, H, I.tok _, ⟨_, rfl⟩, q⟩
  | str z => obtain ⟨t, rfl⟩ := ru; exact PySem.P.repr_of_str ⟨.str _, H, I.tok _, ⟨_, rfl⟩, q⟩ hz
  | lst _ _ => exact ref _ ru
  | tup _ _ => exact ref _ ru
def ReprOk (p : PyData) : Prop := p.showable = true ∧ p.hasDict = false ∧ p.depth ≤ 60 ∧ p.shown.length ≤ sizeLine
def fRepr : PN := fun rs Q => match rs with
  | [(_, d)] => match toPy d with
    | some p => ReprOk p ∧ Q (.sh, .str p.shown)
    | none => False
  | _ => False
theorem fRepr.mono : MonoN fRepr := fun rs Q Q' h q => by
  unfold fRepr at q ⊢
  split at q
  · split at q
    · exact ⟨q.1, h _ q.2⟩
    · exact q.elim
  · exact q.elim
theorem fRepr.ok {K : PySem.W.Frag} : POk (rRepr K) fRepr := by
  intro O H rs vs Qd Q off va q k
  unfold fRepr at q
  split at q
  · split at q
    · rename_i p e
      obtain ⟨v, rfl, h⟩ := vws1 va
      exact ⟨v, p, rfl, h.dp e, q.1.1, q.1.2.1, q.1.2.2.1, q.1.2.2.2, k _ _ _ _ q.2 (.val dv_str)⟩
    · exact q.elim
  · exact q.elim
end G
end
section
set_option Elab.async false
set_option linter.all false
set_option maxRecDepth 100000
namespace G
open PySem PySem.Spec L2
theorem Nx.temp1 {Z : Addr → Prop} {T : List En} {ρ ρ1 : Rh} {σ σ1 : SV} {H H1 : Hp} {m : Mo} {d : D} {v : V} (n : Nx Z T ρ σ H [(.dat m d, some v)] ρ1 σ1 H1) : Val H1 (fun a => Z a ∨ OwnL ([(Slot.dat m d, some v)] ++ (ρ1.zip σ1 ++ T)) a) m d v := by
  obtain ⟨w, e, h⟩ := n.rep.ok _ List.mem_cons_self m d rfl
  cases e
  exact h
theorem Val.cv {H : Hp} {O : Addr → Prop} {m : Mo} {d : D} {v : V} (h : Val H O m d v) : Vw H O (m, d) v := Vw.of_val h fun _ z => z
theorem Nx.drop1 {Z : Addr → Prop} {T : List En} {ρ ρ1 : Rh} {σ σ1 : SV} {H H1 : Hp} {x : En} (n : Nx Z T ρ σ H [x] ρ1 σ1 H1) : Nx Z T ρ σ H [] ρ1 σ1 H1 := Nx.let (X := [x]) (Y := []) n
def wTV (w : WE) : WT := fun ρ Q E => w ρ (fun r ρ' => match r.2 with
  | .bl b => Q b ρ'
  | _ => False) E
def wAndT (a b : WT) : WT := fun ρ Q E => a ρ (fun x ρ1 => if x = true then b ρ1 Q E else Q false ρ1) E
def wOrT (a b : WT) : WT := fun ρ Q E => a ρ (fun x ρ1 => if x = true then Q true ρ1 else b ρ1 Q E) E
def wNotT (a : WT) : WT := fun ρ Q E => a ρ (fun x ρ1 => Q (!x) ρ1) E
theorem wTV.mono {w : WE} (m : MonoG w) : MonoG (wTV w) := fun ρ Q Q' E E' hQ hE h => m ρ _ _ E E' (fun r ρ' q => by
  split at q
  · exact hQ _ _ q
  · exact q.elim) hE h
theorem wAndT.mono {a b : WT} (ma : MonoG a) (mb : MonoG b) : MonoG (wAndT a b) := fun ρ Q Q' E E' hQ hE h => ma ρ _ _ E E' (fun x ρ1 q => by
  cases x with
  | true => exact mb ρ1 _ _ E E' hQ hE q
  | false => exact hQ _ _ q) hE h
theorem wOrT.mono {a b : WT} (ma : MonoG a) (mb : MonoG b) : MonoG (wOrT a b) := fun ρ Q Q' E E' hQ hE h => ma ρ _ _ E E' (fun x ρ1 q => by
  cases x with
  | true => exact hQ _ _ q
  | false => exact mb ρ1 _ _ E E' hQ hE q) hE h
theorem wNotT.mono {a : WT} (ma : MonoG a) : MonoG (wNotT a) := fun ρ Q Q' E E' hQ hE h => ma ρ _ _ E E' (fun x ρ1 q => hQ _ _ q) hE h
section
variable {X : Cx} {cl : Str → Value} {W : WX} {e : Expr}
theorem tV {w : WE} (m : MonoG w) : ∀ σ H Q, tT cl W (wTV w) σ H Q → tB (tE cl W w) σ H Q := fun σ H Q q => by
  obtain ⟨Z, T, ρ, hl, r, q⟩ := q
  refine ⟨Z, T, ρ, hl, r, m _ _ _ _ _ (fun a ρ' q v Y H' er n => ?_) (fun _ _ z => z) q⟩
  obtain ⟨mo, d⟩ := a
  split at q
  · rename_i b eb
    have eb : d = .bl b := eb
    subst eb
    have er : Y = _ := er
    subst er
    exact ⟨b, n.temp1.cv.bl, q b [] H' ⟨rfl, rfl⟩ n.drop1⟩
  · exact q.elim
theorem tAndI {a b : WT} (mb : MonoG b) (ma : MonoG a) : ∀ σ H Q, tT cl W (wAndT a b) σ H Q → tAnd (tT cl W a) (tT cl W b) σ H Q := fun σ H Q q => by
  obtain ⟨Z, T, ρ, hl, r, q⟩ := q
  refine ⟨Z, T, ρ, hl, r, ma _ _ _ _ _ (fun x ρ1 q y Y H1 er n => ?_) (fun _ _ z => z) q⟩
  obtain ⟨rfl, rfl⟩ := er
  cases x with
  | true =>
    have q : b ρ1 _ _ := q
    show tT cl W b σ H1 Q
    exact tG.next mb n q
  | false => exact q false [] H1 ⟨rfl, rfl⟩ n
theorem tOrI {a b : WT} (mb : MonoG b) (ma : MonoG a) : ∀ σ H Q, tT cl W (wOrT a b) σ H Q → tOr (tT cl W a) (tT cl W b) σ H Q := fun σ H Q q => by
  obtain ⟨Z, T, ρ, hl, r, q⟩ := q
  refine ⟨Z, T, ρ, hl, r, ma _ _ _ _ _ (fun x ρ1 q y Y H1 er n => ?_) (fun _ _ z => z) q⟩
  obtain ⟨rfl, rfl⟩ := er
  cases x with
  | true => exact q true [] H1 ⟨rfl, rfl⟩ n
  | false =>
    have q : b ρ1 _ _ := q
    show tT cl W b σ H1 Q
    exact tG.next mb n q
theorem tNotI {a : WT} (ma : MonoG a) : ∀ σ H Q, tT cl W (wNotT a) σ H Q → tNot (tT cl W a) σ H Q := fun σ H Q q => by
  obtain ⟨Z, T, ρ, hl, r, q⟩ := q
  refine ⟨Z, T, ρ, hl, r, ma _ _ _ _ _ (fun x ρ1 q y Y H1 er n => ?_) (fun _ _ z => z) q⟩
  obtain ⟨rfl, rfl⟩ := er
  exact q (!x) [] H1 ⟨rfl, rfl⟩ n
end
def wIf (t : WT) (a b : WE) : WE := fun ρ Q E => t ρ (fun x ρ1 => if x = true then a ρ1 Q E else b ρ1 Q E) E
def wAndE (a b : WE) : WE := fun ρ Q E => a ρ (fun r ρ1 => match r.2 with
  | .bl x => if x = true then b ρ1 Q E else Q (.sh, .bl false) ρ1
  | _ => False) E
def wOrE (a b : WE) : WE := fun ρ Q E => a ρ (fun r ρ1 => match r.2 with
  | .bl x => if x = true then Q (.sh, .bl true) ρ1 else b ρ1 Q E
  | _ => False) E
def wNotE (a : WE) : WE := fun ρ Q E => a ρ (fun r ρ1 => match r.2 with
  | .bl x => Q (.sh, .bl (!x)) ρ1
  | _ => False) E
theorem wIf.mono {t : WT} {a b : WE} (mt : MonoG t) (ma : MonoG a) (mb : MonoG b) : MonoG (wIf t a b) := fun ρ Q Q' E E' hQ hE h => mt ρ _ _ E E' (fun x ρ1 q => by
  cases x with
  | true => exact ma ρ1 _ _ E E' hQ hE q
  | false => exact mb ρ1 _ _ E E' hQ hE q) hE h
theorem wAndE.mono {a b : WE} (ma : MonoG a) (mb : MonoG b) : MonoG (wAndE a b) := fun ρ Q Q' E E' hQ hE h => ma ρ _ _ E E' (fun r ρ1 q => by
  split at q
  · rename_i x _
    cases x with
    | true => exact mb ρ1 _ _ E E' hQ hE q
    | false => exact hQ _ _ q
  · exact q.elim) hE h
theorem wOrE.mono {a b : WE} (ma : MonoG a) (mb : MonoG b) : MonoG (wOrE a b) := fun ρ Q Q' E E' hQ hE h => ma ρ _ _ E E' (fun r ρ1 q => by
  split at q
  · rename_i x _
    cases x with
    | false => exact mb ρ1 _ _ E E' hQ hE q
    | true => exact hQ _ _ q
  · exact q.elim) hE h
theorem wNotE.mono {a : WE} (ma : MonoG a) : MonoG (wNotE a) := fun ρ Q Q' E E' hQ hE h => ma ρ _ _ E E' (fun r ρ1 q => by
  split at q
  · exact hQ _ _ q
  · exact q.elim) hE h
theorem Nx.valE {Z : Addr → Prop} {T : List En} {ρ ρ1 : Rh} {σ σ1 : SV} {H H1 : Hp} {d : D} {v : V} (n : Nx Z T ρ σ H [] ρ1 σ1 H1) (h : DV H1 (fun a => Z a ∨ OwnL (ρ1.zip σ1 ++ T) a) d v) : Nx Z T ρ σ H [(.dat .sh d, some v)] ρ1 σ1 H1 := n.trans (Nx.val n.len n.rep h)
section
variable {X : Cx} {cl : Str → Value} {W : WX} {e : Expr}
theorem tIfI {t : WT} {a b : WE} (mt : MonoG t) (ma : MonoG a) (mb : MonoG b) : ∀ σ H Q, tE cl W (wIf t a b) σ H Q → tIf (tT cl W t) (tE cl W a) (tE cl W b) σ H Q := fun σ H Q q => by
  obtain ⟨Z, T, ρ, hl, r, q⟩ := q
  refine ⟨Z, T, ρ, hl, r, mt _ _ _ _ _ (fun x ρ1 q y Y H1 er n => ?_) (fun _ _ z => z) q⟩
  obtain ⟨rfl, rfl⟩ := er
  cases x with
  | true =>
    have q : a ρ1 _ _ := q
    show tE cl W a σ H1 Q
    exact tG.next ma n q
  | false =>
    have q : b ρ1 _ _ := q
    show tE cl W b σ H1 Q
    exact tG.next mb n q
theorem tAndVI {a b : WE} (ma : MonoG a) (mb : MonoG b) : ∀ σ H Q, tE cl W (wAndE a b) σ H Q → tAndV (tE cl W a) (tE cl W b) σ H Q := fun σ H Q q => by
  obtain ⟨Z, T, ρ, hl, r, q⟩ := q
  refine ⟨Z, T, ρ, hl, r, ma _ _ _ _ _ (fun x ρ1 q v Y H1 er n => ?_) (fun _ _ z => z) q⟩
  obtain ⟨mo, d⟩ := x
  have er : Y = _ := er
  subst er
  split at q
  · rename_i c ec
    have ec : d = .bl c := ec
    subst ec
    refine ⟨c, n.temp1.cv.bl, ?_⟩
    cases c with
    | true =>
      have q : b ρ1 _ _ := q
      show tE cl W b σ H1 Q
      exact tG.next mb n.drop1 q
    | false => exact q _ _ H1 rfl (n.drop1.valE dv_bl)
  · exact q.elim
theorem tOrVI {a b : WE} (ma : MonoG a) (mb : MonoG b) : ∀ σ H Q, tE cl W (wOrE a b) σ H Q → tOrV (tE cl W a) (tE cl W b) σ H Q := fun σ H Q q => by
  obtain ⟨Z, T, ρ, hl, r, q⟩ := q
  refine ⟨Z, T, ρ, hl, r, ma _ _ _ _ _ (fun x ρ1 q v Y H1 er n => ?_) (fun _ _ z => z) q⟩
  obtain ⟨mo, d⟩ := x
  have er : Y = _ := er
  subst er
  split at q
  · rename_i c ec
    have ec : d = .bl c := ec
    subst ec
    refine ⟨c, n.temp1.cv.bl, ?_⟩
    cases c with
    | false =>
      have q : b ρ1 _ _ := q
      show tE cl W b σ H1 Q
      exact tG.next mb n.drop1 q
    | true => exact q _ _ H1 rfl (n.drop1.valE dv_bl)
  · exact q.elim
theorem tNotVI {a : WE} (ma : MonoG a) : ∀ σ H Q, tE cl W (wNotE a) σ H Q → tNotV (tE cl W a) σ H Q := fun σ H Q q => by
  obtain ⟨Z, T, ρ, hl, r, q⟩ := q
  refine ⟨Z, T, ρ, hl, r, ma _ _ _ _ _ (fun x ρ1 q v Y H1 er n => ?_) (fun _ _ z => z) q⟩
  obtain ⟨mo, d⟩ := x
  have er : Y = _ := er
  subst er
  split at q
  · rename_i c ec
    have ec : d = .bl c := ec
    subst ec
    exact ⟨c, n.temp1.cv.bl, q _ _ H1 rfl (n.drop1.valE dv_bl)⟩
  · exact q.elim
end
def shs : List R → Option (List D)
  | [] => some []
  | (.sh, d) :: r => match shs r with
    | some ds => some (d :: ds)
    | none => none
  | _ :: _ => none
theorem shs_dvs {H : Hp} {O : Addr → Prop} : ∀ {rs : List R} {vs : List V} {ds : List D}, Vws H O rs vs → shs rs = some ds → DVs H O ds vs ∧ vs.length = rs.length
  | [], vs, _, h, e => by
    have h : vs = [] := h
    subst h; cases e; exact ⟨DVs.nil, rfl⟩
  | (m, d) :: rs, _, _, h, e => by
    obtain ⟨v, w, rfl, h1, h2⟩ := h
    cases m with
    | sh =>
      have e : (match shs rs with | some ds => some (d :: ds) | none => none) = some _ := e
      split at e
      · rename_i ds' e'
        cases e
        obtain ⟨h3, h4⟩ := shs_dvs h2 e'
        exact ⟨DVs.cons h1 h3, by simp [h4]⟩
      · cases e
    | _ => cases e
def fLst : PN := fun rs Q => match shs rs with
  | some ds => rs.length ≤ sizeLine ∧ Q (.ow, .lst ds)
  | none => False
def fTup : PN := fun rs Q => match shs rs with
  | some ds => rs.length ≤ sizeLine ∧ Q (.sh, .tup ds)
  | none => False
theorem fLst.mono : MonoN fLst := fun rs Q Q' h q => by
  unfold fLst at q ⊢
  split at q
  · exact ⟨q.1, h _ q.2⟩
  · exact q.elim
theorem fTup.mono : MonoN fTup := fun rs Q Q' h q => by
  unfold fTup at q ⊢
  split at q
  · exact ⟨q.1, h _ q.2⟩
  · exact q.elim
def rLstD : List V → Hp → VK → Prop := fun xs H Q => xs.length ≤ sizeLine ∧ ∀ p, H p = none → Q (.ref p) (upd H p (.lst xs))
def rTupD : List V → Hp → VK → Prop := fun xs H Q => xs.length ≤ sizeLine ∧ ∀ p, H p = none → Q (.ref p) (upd H p (.tup xs))
theorem fLst.ok : POk rLstD fLst := by
  intro O H rs vs Qd Q off va q k
  unfold fLst at q
  split at q
  · rename_i ds e
    obtain ⟨h1, h2⟩ := shs_dvs va e
    exact ⟨by rw [h2]; exact q.1, fun l hl => k _ _ _ _ q.2 (.lst hl h1)⟩
  · exact q.elim
theorem fTup.ok : POk rTupD fTup := by
  intro O H rs vs Qd Q off va q k
  unfold fTup at q
  split at q
  · rename_i ds e
    obtain ⟨h1, h2⟩ := shs_dvs va e
    exact ⟨by rw [h2]; exact q.1, fun l hl => k _ _ _ _ q.2 (.tup hl (off l hl) h1)⟩
  · exact q.elim
def fNeg : P1 := fun a Q => match a.2 with
  | .int i => Q (.sh, .int (-i))
  | _ => False
theorem fNeg.mono : Mono1 fNeg := fun a Q Q' h q => by
  unfold fNeg at q ⊢
  split at q
  · exact h _ q
  · exact q.elim
theorem fNeg.ok : POk1 (rU fun i => .int (-i)) fNeg := by
  rintro O H ⟨m, a⟩ x Qd Q off va q k
  unfold fNeg at q
  split at q
  · rename_i i e1; cases e1; cases va.int
    exact ⟨i, rfl, k _ _ _ _ q (.val dv_int)⟩
  · exact q.elim
def cut {α : Type} (xs : List α) (lo hi : Option Int) : List α := (xs.drop (HT.sIx xs.length 0 lo)).take (HT.sIx xs.length xs.length hi - HT.sIx xs.length 0 lo)
theorem DVs.cut {H : Hp} {O : Addr → Prop} {ds : List D} {xs : List V} (h : DVs H O ds xs) (lo hi : Option Int) : DVs H O (G.cut ds lo hi) (cutV xs lo hi) := by
  unfold G.cut cutV
  rw [h.len]
  exact (h.drop _).take _
abbrev WP := WG (Option Int)
def relP : Option Int → Option Int → SV → List En → Prop := fun a b _ X => a = b ∧ X = []
abbrev tP (cl : Str → Value) (W : WX) (w : WP) : SV → Hp → (Option Int → Hp → Prop) → Prop := tG cl W relP w
def pNone : WP := fun ρ Q _ => Q none ρ
def pInt (w : WE) : WP := fun ρ Q E => w ρ (fun r ρ' => match r.2 with
  | .int i => Q (some i) ρ'
  | _ => False) E
theorem pNone.mono : MonoG pNone := fun ρ Q Q' E E' hQ hE h => hQ _ _ h
theorem pInt.mono {w : WE} (m : MonoG w) : MonoG (pInt w) := fun ρ Q Q' E E' hQ hE h => m ρ _ _ E E' (fun r ρ' q => by
  split at q
  · exact hQ _ _ q
  · exact q.elim) hE h
def wSl (oa : WO) (lo hi : WP) : WE := fun ρ Q E => oa ρ (fun a ρ1 => lo ρ1 (fun l ρ2 => hi ρ2 (fun h ρ3 => match res ρ3 a with
  | some (_, .lst xs) => Q (.ow, .lst (cut xs l h)) ρ3
  | some (_, .tup xs) => Q (.sh, .tup (cut xs l h)) ρ3
  | _ => False) E) E) E
theorem wSl.mono {oa : WO} {lo hi : WP} (ma : MonoG oa) (ml : MonoG lo) (mh : MonoG hi) : MonoG (wSl oa lo hi) := fun ρ Q Q' E E' hQ hE h => ma ρ _ _ E E' (fun a ρ1 q => ml ρ1 _ _ E E' (fun l ρ2 q => mh ρ2 _ _ E E' (fun u ρ3 q => by
  split at q
  · exact hQ _ _ q
  · exact hQ _ _ q
  · exact q.elim) hE q) hE q) hE h
section
variable {X : Cx} {cl : Str → Value} {W : WX} {e : Expr}
theorem po_imp {o : Option Expr} {t t' : TO} (h : PO X o t) (i : ∀ σ H Q, t' σ H Q → t σ H Q) : PO X o t' := ⟨fun pins s σ H Q I q => h.run pins s σ H Q I (i σ H Q q)⟩
theorem po_pNone : PO X none (tP cl W pNone) := po_imp po_none fun σ H Q q => by
  obtain ⟨Z, T, ρ, hl, r, q⟩ := q
  exact q none [] H ⟨rfl, rfl⟩ (Nx.refl hl r)
theorem po_pInt {w : WE} (m : MonoG w) (h : PE X e (tE cl W w)) : PO X (some e) (tP cl W (pInt w)) := po_imp (po_some h) fun σ H Q q => by
  obtain ⟨Z, T, ρ, hl, r, q⟩ := q
  refine ⟨Z, T, ρ, hl, r, m _ _ _ _ _ (fun a ρ' q v Y H' er n => ?_) (fun _ _ z => z) q⟩
  obtain ⟨mo, d⟩ := a
  have er : Y = _ := er
  subst er
  split at q
  · rename_i i eb
    have eb : d = .int i := eb
    subst eb
    exact ⟨i, n.temp1.cv.int, q _ [] H' ⟨rfl, rfl⟩ n.drop1⟩
  · exact q.elim
def rSlB (K : PySem.W.Frag) : V → Option Int → Option Int → Hp → VK → Prop := fun x lo hi H Q => rSlL K x lo hi H Q ∨ rSlA K x lo hi H Q
theorem sl_both : SlR X (rSlB X.K) := sl_list.or sl_tupA
theorem cut_whole {α : Type} {xs : List α} {lo hi : Option Int} (h : HT.sIx xs.length 0 lo = 0 ∧ HT.sIx xs.length xs.length hi = xs.length) : cut xs lo hi = xs := by
  unfold cut
  rw [h.1, h.2]
  simp
theorem tSlI {K : PySem.W.Frag} {oa : WO} {lo hi : WP} (ma : MonoG oa) (ml : MonoG lo) (mh : MonoG hi) : ∀ σ H Q, tE cl W (wSl oa lo hi) σ H Q → tSl (rSlB K) (tO cl W oa) (tP cl W lo) (tP cl W hi) σ H Q := fun σ H Q q => by
  obtain ⟨Z, T, ρ, hl, r, q⟩ := q
  refine ⟨Z, T, ρ, hl, r, ma _ _ _ _ _ (fun a ρ1 q v X1 H1 e1 n => ?_) (fun _ _ z => z) q⟩
  refine tG.next ml n (ml _ _ _ _ _ (fun l ρ2 q l' X2 H2 e2 n2 => ?_) (fun _ _ z => z) q)
  obtain ⟨rfl, rfl⟩ := e2
  rw [List.append_nil] at n2
  refine tG.next mh n2 (mh _ _ _ _ _ (fun u ρ3 q u' X3 H3 e3 n3 => ?_) (fun _ _ z => z) q)
  obtain ⟨rfl, rfl⟩ := e3
  rw [List.append_nil] at n3
  have off : Off (fun b => Z b ∨ OwnL (ρ3.zip σ ++ T) b) H3 := fun p hp => fresh_off n3.rep.drop hp
  split at q
  · rename_i m xs ex
    obtain ⟨p, ys, rfl, hp, rr⟩ := (view1 n3.len n3.rep e1 ex).lst
    exact .inl ⟨p, ys, rfl, sqL_of hp, fun k hk => q _ _ _ rfl (n3.out (.lst hk (rr.cut _ _)))⟩
  · rename_i m xs ex
    obtain ⟨p, ys, rfl, hp, rr, np⟩ := (view1 n3.len n3.rep e1 ex).tup
    refine .inr ⟨p, ys, rfl, SqT.of hp, fun w => ?_, fun w k hk => q _ _ _ rfl (n3.out (.tup hk (off k hk) (rr.cut _ _)))⟩
    rw [rr.len] at w
    exact q _ _ _ rfl (n3.out (.val (by rw [cut_whole w]; exact dv_tup hp np rr)))
  · exact q.elim
end
end G
end
section
set_option Elab.async false
set_option linter.all false
set_option maxRecDepth 100000
namespace G
open PySem PySem.Spec L2
abbrev WGt := R → Rh → (Rh → Prop) → XQ → Prop
abbrev WGs := List D → Rh → (Rh → Prop) → XQ → Prop
def MonoT (g : WGt) : Prop := ∀ r ρ (Q Q' : Rh → Prop) (E E' : XQ), (∀ ρ', Q ρ' → Q' ρ') → (∀ x ρ', E x ρ' → E' x ρ') → g r ρ Q E → g r ρ Q' E'
def MonoTs (g : WGs) : Prop := ∀ ds ρ (Q Q' : Rh → Prop) (E E' : XQ), (∀ ρ', Q ρ' → Q' ρ') → (∀ x ρ', E x ρ' → E' x ρ') → g ds ρ Q E → g ds ρ Q' E'
structure NxG (Vs : Nat → Bool) (Z : Addr → Prop) (T : List En) (x : En) (ρ : Rh) (σ : SV) (H : Hp) (ρ' : Rh) (σ' : SV) (H' : Hp) : Prop where
  len : ρ'.length = σ'.length
  lens : σ'.length = σ.length
  rep : RepL Z H' (ρ'.zip σ' ++ T)
  keep : Keep (OwnL (ρ.zip σ)) H H'
  grow : ∀ a, OwnL (ρ'.zip σ') a → (own x a ∨ OwnL (ρ.zip σ) a) ∨ H a = none
  sta : Sta ρ σ ρ' σ'
  out : ∀ i, Vs i = false → σ'[i]? = σ[i]?
def outV (Vs : Nat → Bool) (σ σ' : SV) : Prop := ∀ i, Vs i = false → σ'[i]? = σ[i]?
theorem Nx.tgt {Vs : Nat → Bool} {Z : Addr → Prop} {T : List En} {x : En} {ρ ρ1 ρ2 : Rh} {σ σ1 σ2 : SV} {H H1 H2 : Hp} (n : Nx Z T ρ σ H [x] ρ1 σ1 H1) (g : NxG Vs Z T x ρ1 σ1 H1 ρ2 σ2 H2) : Nx Z T ρ σ H [] ρ2 σ2 H2 where
  len := g.len
  lens := g.lens.trans n.lens
  rep := g.rep
  keep := n.keep.trans g.keep fun a z => n.grow a (OwnL.cons.mpr (.inr z))
  grow := fun a z => by
    rcases g.grow a z with (z | z) | z
    · exact n.grow a (OwnL.cons.mpr (.inl z))
    · exact n.grow a (OwnL.cons.mpr (.inr z))
    · exact back n.keep z
  sta := n.sta.trans g.sta
section
variable (Vs : Nat → Bool) (cl : Str → Value) (W : WX)
def tGt (g : WGt) : TG := fun v σ H Q => ∃ (Z : Addr → Prop) (T : List En) (ρ : Rh) (r : R), ρ.length = σ.length ∧ RepL Z H ((.dat r.1 r.2, some v) :: (ρ.zip σ ++ T)) ∧
  g r ρ (fun ρ' => ∀ σ' H', NxG Vs Z T (.dat r.1 r.2, some v) ρ σ H ρ' σ' H' → Q σ' H') (fun x ρ' => ∀ σ' H', NxG Vs Z T (.dat r.1 r.2, some v) ρ σ H ρ' σ' H' → W (cl x) none σ' H')
def tGts (g : WGs) : TGs := fun vs σ H Q => ∃ (Z : Addr → Prop) (T : List En) (ρ : Rh) (ds : List D), ρ.length = σ.length ∧ RepL Z H (ρ.zip σ ++ T) ∧ DVs H (fun a => Z a ∨ OwnL (ρ.zip σ ++ T) a) ds vs ∧
  g ds ρ (fun ρ' => ∀ σ' H', Nx Z T ρ σ H [] ρ' σ' H' → outV Vs σ σ' → Q σ' H') (fun x ρ' => ∀ σ' H', Nx Z T ρ σ H [] ρ' σ' H' → outV Vs σ σ' → W (cl x) none σ' H')
end
def canSet (ρ : Rh) (i : Nat) : Prop := match ρ[i]? with
  | some .un => True
  | some (.dat .sh _) => True
  | some (.dat .ow _) => True
  | some (.dat .fr _) => True
  | _ => False
def gN (i : Nat) : WGt := fun r ρ Q _ => canSet ρ i ∧ Q (ρ.set i (.dat r.1 r.2))
theorem gN.mono (i : Nat) : MonoT (gN i) := fun r ρ Q Q' E E' hQ hE h => ⟨h.1, hQ _ h.2⟩
theorem canSet.at_ {ρ : Rh} {i : Nat} (h : canSet ρ i) : ∃ s, ρ[i]? = some s ∧ ∀ d, s ≠ .dat .bo d ∧ s ≠ .dat .ln d := by
  unfold canSet at h
  split at h
  · rename_i e; exact ⟨_, e, fun d => ⟨nofun, nofun⟩⟩
  · rename_i e; exact ⟨_, e, fun d => ⟨nofun, nofun⟩⟩
  · rename_i e; exact ⟨_, e, fun d => ⟨nofun, nofun⟩⟩
  · rename_i e; exact ⟨_, e, fun d => ⟨nofun, nofun⟩⟩
  · exact h.elim
theorem NxG.set {Vs : Nat → Bool} {Z : Addr → Prop} {T : List En} {ρ : Rh} {σ : SV} {H : Hp} {r : R} {v : V} {i : Nat} (hl : ρ.length = σ.length) (rp : RepL Z H ((.dat r.1 r.2, some v) :: (ρ.zip σ ++ T))) (c : canSet ρ i) (hV : Vs i = true) : NxG Vs Z T (.dat r.1 r.2, some v) ρ σ H (ρ.set i (.dat r.1 r.2)) (σ.set i (some v)) H := by
  obtain ⟨s, es, hs⟩ := c.at_
  obtain ⟨ov, e1, e2⟩ := zip_get hl es
  obtain ⟨rest, p1, p2⟩ := set_perm e2
  have ez := zip_set (ρ := ρ) (σ := σ) i (Slot.dat r.1 r.2) (some v)
  refine ⟨by simp [hl], by simp, ?_, .refl, fun a z => .inl ?_, fun j m d e hm => ?_, fun j hj => List.getElem?_set_ne fun e => by rw [e, hj] at hV; cases hV⟩
  · rw [ez]
    have q : RepL Z H ((s, ov) :: ((Slot.dat r.1 r.2, some v) :: (rest ++ T))) := rp.perm ((((p1.append_right T)).cons _).trans (.swap _ _ _))
    exact (q.drop (P := [_])).perm (((p2 _).symm).append_right T)
  · rw [ez] at z
    rcases OwnL.cons.mp ((OwnL.perm (p2 _)).mp z) with z | z
    · exact .inl z
    · exact .inr ((OwnL.perm p1).mpr (OwnL.cons.mpr (.inr z)))
  · have ne : i ≠ j := fun z => by
      subst z
      rw [es] at e
      cases e
      rcases hm with hm | hm
      · subst hm; exact (hs d).1 rfl
      · subst hm; exact (hs d).2 rfl
    exact ⟨d, by rw [List.getElem?_set_ne ne]; exact e, fun _ => rfl, by rw [List.getElem?_set_ne ne]⟩
section
variable {Vs : Nat → Bool} {X : Cx} {cl : Str → Value} {W : WX} {e : Expr} {pos : Pos}
theorem pg_imp {t t' : TG} (h : PG X e t) (i : ∀ v σ H Q, t' v σ H Q → t v σ H Q) : PG X e t' := ⟨fun pins s σ H v u Q I r q => h.run pins s σ H v u Q I r (i v σ H Q q)⟩
theorem pgs_imp {es : List Expr} {t t' : TGs} (h : PGs X es t) (i : ∀ v σ H Q, t' v σ H Q → t v σ H Q) : PGs X es t' := ⟨fun pins s σ H v u Q I r q => h.run pins s σ H v u Q I r (i v σ H Q q)⟩
theorem pg_gN {i : Nat} {x : Str} (hV : Vs i = true) (h : PG X (.Name x pos) (gName i)) : PG X (.Name x pos) (tGt Vs cl W (gN i)) := pg_imp h fun v σ H Q q => by
  obtain ⟨Z, T, ρ, r, hl, rp, c, q⟩ := q
  exact q _ H (NxG.set hl rp c hV)
end
def gsNil : WGs := fun ds ρ Q _ => match ds with
  | [] => Q ρ
  | _ => False
def gsCons (g : WGt) (gs : WGs) : WGs := fun ds ρ Q E => match ds with
  | d :: r => g (.sh, d) ρ (fun ρ' => gs r ρ' Q E) E
  | [] => False
def gTp (n : Nat) (gs : WGs) : WGt := fun r ρ Q E => match r.2 with
  | .tup ds => ds.length = n ∧ gs ds ρ Q E
  | .lst ds => r.1 ≠ .fr ∧ ds.length = n ∧ gs ds ρ Q E
  | _ => False
theorem gsNil.mono : MonoTs gsNil := fun ds ρ Q Q' E E' hQ hE h => by
  unfold gsNil at h ⊢
  split at h
  · exact hQ _ h
  · exact h.elim
theorem gsCons.mono {g : WGt} {gs : WGs} (mg : MonoT g) (ms : MonoTs gs) : MonoTs (gsCons g gs) := fun ds ρ Q Q' E E' hQ hE h => by
  unfold gsCons at h ⊢
  split at h
  · exact mg _ _ _ _ _ _ (fun ρ' q => ms _ _ _ _ _ _ hQ hE q) hE h
  · exact h.elim
theorem gTp.mono {n : Nat} {gs : WGs} (ms : MonoTs gs) : MonoT (gTp n gs) := fun r ρ Q Q' E E' hQ hE h => by
  unfold gTp at h ⊢
  split at h
  · exact ⟨h.1, ms _ _ _ _ _ _ hQ hE h.2⟩
  · exact ⟨h.1, h.2.1, ms _ _ _ _ _ _ hQ hE h.2.2⟩
  · exact h.elim
theorem Nx.refl_tgt {Vs : Nat → Bool} {Z : Addr → Prop} {T : List En} {x : En} {ρ ρ1 : Rh} {σ σ1 : SV} {H H1 : Hp} (no : ∀ a, ¬ own x a) (g : NxG Vs Z T x ρ σ H ρ1 σ1 H1) : Nx Z T ρ σ H [] ρ1 σ1 H1 :=
  ⟨g.len, g.lens, g.rep, g.keep, fun a z => (g.grow a z).imp (fun q => q.elim (fun o => (no a o).elim) id) id, g.sta⟩
theorem NxG.of_nx {Vs : Nat → Bool} {Z : Addr → Prop} {T : List En} {x : En} {ρ ρ1 : Rh} {σ σ1 : SV} {H H1 : Hp} (n : Nx Z T ρ σ H [] ρ1 σ1 H1) (o : outV Vs σ σ1) : NxG Vs Z T x ρ σ H ρ1 σ1 H1 := ⟨n.len, n.lens, n.rep, n.keep, fun a z => (n.grow a z).imp .inr id, n.sta, o⟩
section
variable {Vs : Nat → Bool} {X : Cx} {cl : Str → Value} {W : WX} {e : Expr} {es : List Expr} {pos : Pos}
theorem pgs_gsNil : PGs X [] (tGts Vs cl W gsNil) := pgs_imp pgs_nil fun vs σ H Q q => by
  obtain ⟨Z, T, ρ, ds, hl, rp, dv, q⟩ := q
  unfold gsNil at q
  split at q
  · unfold DVs at dv
    exact ⟨dv, q _ H (Nx.refl hl rp) fun _ _ => rfl⟩
  · exact q.elim
theorem pgs_gsCons {g : WGt} {gs : WGs} (mg : MonoT g) (ms : MonoTs gs) (h1 : PG X e (tGt Vs cl W g)) (h2 : PGs X es (tGts Vs cl W gs)) (hs : (assignEach (e :: es) X.env).map (·.2) = assign e X.env :: (assignEach es X.env).map (·.2)) : PGs X (e :: es) (tGts Vs cl W (gsCons g gs)) :=
  pgs_imp (pgs_cons h1 h2 hs) fun vs σ H Q q => by
    obtain ⟨Z, T, ρ, ds, hl, rp, dv, q⟩ := q
    unfold gsCons at q
    split at q
    · rename_i d ds'
      unfold DVs at dv
      obtain ⟨v, r, rfl, d1, d2⟩ := dv
      have no : ∀ a, ¬ own (Slot.dat .sh d, some v) a := fun a => not_own_sh
      refine ⟨v, r, rfl, Z, T, ρ, (.sh, d), hl, rp.push (fun m d' e => by cases e; exact ⟨v, rfl, d1⟩) no, mg _ _ _ _ _ _ (fun ρ1 q σ1 H1 n1 => ?_) (fun x ρ1 q σ1 H1 n1 => q σ1 H1 (Nx.refl_tgt no n1) n1.out) q⟩
      have n1' := Nx.refl_tgt no n1
      refine ⟨Z, T, ρ1, ds', n1.len, n1.rep, DVs.keep (fun b o q n => n1.keep b o q fun z => n (.inr (OwnL.app.mpr (.inl z)))) (fun b z => ?_) _ _ d2, ms _ _ _ _ _ _ (fun ρ2 q σ2 H2 n2 o2 => q σ2 H2 (n1'.trans n2) fun i hi => (o2 i hi).trans (n1.out i hi)) (fun x ρ2 q σ2 H2 n2 o2 => q σ2 H2 (n1'.trans n2) fun i hi => (o2 i hi).trans (n1.out i hi)) q⟩
      rcases z with z | z
      · exact .inl (.inl z)
      · rcases OwnL.app.mp z with z | z
        · exact (n1'.grow b z).imp (fun q => .inr (OwnL.app.mpr (.inl q))) id
        · exact .inl (.inr (OwnL.app.mpr (.inr z)))
    · exact q.elim
theorem pg_or {t t' : TG} (h : PG X e t) (h' : PG X e t') : PG X e (fun v σ H Q => t v σ H Q ∨ t' v σ H Q) := ⟨fun pins s σ H v u Q I r q => q.elim (h.run pins s σ H v u Q I r) (h'.run pins s σ H v u Q I r)⟩
theorem pg_gTp {k n : Nat} {gs : WGs} (ms : MonoTs gs) (hc : X.calm = true) (h : PGs X es (tGts Vs cl W gs)) (hn : (assignEach es X.env).length = n) (hst : (assignEach es X.env).findIdx? (·.1) = none) : PG X (.Tuple es k pos) (tGt Vs cl W (gTp n gs)) :=
  pg_imp (pg_or (pg_tup hc h hn hst) (pg_lst hc h hn hst)) fun v σ H Q q => by
    obtain ⟨Z, T, ρ, ⟨m, d⟩, hl, rp, q⟩ := q
    have vv : Vw H (fun a => Z a ∨ OwnL (ρ.zip σ ++ T) a) (m, d) v := by
      obtain ⟨w, ew, hv⟩ := rp.ok _ List.mem_cons_self m d rfl
      cases ew
      exact Vw.of_val hv fun b z => z.imp id fun q => OwnL.cons.mpr (.inr q)
    have rp2 : RepL Z H (ρ.zip σ ++ T) := rp.drop (P := [_])
    unfold gTp at q
    split at q
    · rename_i ds e
      have e : d = .tup ds := e
      subst e
      obtain ⟨p, xs, rfl, hp, r, _⟩ := vv.tup
      exact .inl ⟨p, xs, rfl, SqT.of hp, by rw [r.len]; exact q.1, Z, T, ρ, ds, hl, rp2, r, ms _ _ _ _ _ _ (fun ρ2 q σ2 H2 n2 o2 => q σ2 H2 (NxG.of_nx n2 o2)) (fun x ρ2 q σ2 H2 n2 o2 => q σ2 H2 (NxG.of_nx n2 o2)) q.2⟩
    · rename_i ds e
      have e : d = .lst ds := e
      subst e
      obtain ⟨p, xs, rfl, hp, r⟩ := vv.lst
      exact .inr ⟨p, xs, rfl, sqL_of hp, by rw [r.len]; exact q.2.1, Z, T, ρ, ds, hl, rp2, r, ms _ _ _ _ _ _ (fun ρ2 q σ2 H2 n2 o2 => q σ2 H2 (NxG.of_nx n2 o2)) (fun x ρ2 q σ2 H2 n2 o2 => q σ2 H2 (NxG.of_nx n2 o2)) q.2.2⟩
    · exact q.elim
end
theorem Nx.chg {Z : Addr → Prop} {T X : List En} {ρ ρ1 : Rh} {σ : SV} {H H1 H2 : Hp} {i : Nat} {m : Mo} {d d' : D} {a : Addr} (n : Nx Z T ρ σ H X ρ1 σ H1) (hs : ρ1[i]? = some (.dat m d)) (hm : m = .ow ∨ m = .bo) (hv : σ[i]? = some (some (.ref a)))
    (k : ∀ b o, H1 b = some o → b ≠ a → H2 b = some o) (t : Top H2 (fun b => Z b ∨ OwnL (ρ1.zip σ ++ T) b) d' a) : Nx Z T ρ σ H [] (ρ1.set i (.dat m d')) σ H2 := by
  have n1 : Nx Z T ρ σ H [] ρ1 σ H1 := Nx.let (X := X) (Y := []) (by rw [List.append_nil]; exact n)
  have r1 : RepL Z H1 (ρ1.zip σ ++ T) := n1.rep
  obtain ⟨v, e1, e2, _⟩ := r1.at_ n1.len hs
  rw [hv] at e1
  cases e1
  have hmo : m.own = true := by rcases hm with rfl | rfl <;> rfl
  have ow : ∀ d, own (Slot.dat m d, some (V.ref a)) a := fun d => ⟨m, d, rfl, hmo, rfl⟩
  have ow' : ∀ d b, own (Slot.dat m d, some (V.ref a)) b → b = a := fun d b o => by
    obtain ⟨_, _, _, _, e⟩ := o
    exact (V.ref.inj (Option.some.inj e)).symm
  have owL : OwnL (ρ1.zip σ) a := ⟨_, List.mem_of_getElem? e2, ow d⟩
  obtain ⟨rest, rf, p1, p2⟩ := r1.front e2
  have ez := zip_set1 (ρ := ρ1) (s := .dat m d') hv
  have P1 : ∀ b, OwnL [(Slot.dat m d', some (V.ref a))] b ↔ b = a := fun b => by
    constructor
    · rintro ⟨x, hx, o⟩; rw [List.mem_singleton] at hx; subst hx; exact ow' _ b o
    · rintro rfl; exact ⟨_, List.mem_singleton.mpr rfl, ow _⟩
  have nS : ∀ b, (Z b ∨ OwnL (rest ++ T) b) → b ≠ a := fun b z e => by
    subst e
    rcases z with z | z
    · exact rf.out b (OwnL.cons.mpr (.inl (ow d))) z
    · exact rf.cross (P := [_]) ⟨_, List.mem_singleton.mpr rfl, ow d⟩ z
  have trkS : ∀ b, (Z b ∨ OwnL (rest ++ T) b) → ∃ o, H1 b = some o := fun b z => by
    rcases z with z | z
    · exact rf.zt b z
    · exact rf.trk (OwnL.cons.mpr (.inr z))
  have r' : RepL (fun b => Z b ∨ OwnL (rest ++ T) b) H2 [(Slot.dat m d', some (V.ref a))] := by
    refine ⟨fun x hx => ?_, fun b z => fun z2 => nS b z2 ((P1 b).mp z), List.pairwise_singleton _ _, fun b z => ?_⟩
    · rw [List.mem_singleton] at hx
      subst hx
      intro m' d'' e
      cases e
      refine ⟨_, rfl, (Val.of_own hmo).mpr ⟨a, rfl, .inr ((P1 a).mpr rfl), t.keep (fun _ _ q _ => q) (fun b z => .inl ?_) fun _ q => q⟩⟩
      rcases z with (z | z) | z
      · exact .inl z
      · refine .inr ?_
        rcases OwnL.app.mp z with z | z
        · exact OwnL.app.mpr (.inl ((OwnL.perm p1).mpr (OwnL.cons.mpr (.inr z))))
        · exact OwnL.app.mpr (.inr z)
      · rw [(P1 b).mp z]
        exact .inr (OwnL.app.mpr (.inl owL))
    · obtain ⟨o, q⟩ := trkS b z
      exact ⟨o, k b o q (nS b z)⟩
  have j := RepL.join (P := [(Slot.dat m d, some (V.ref a))]) (P' := [(Slot.dat m d', some (V.ref a))]) (S := rest ++ T) (H' := H2) rf r' (fun b o q nb => k b o q fun e => nb ⟨_, List.mem_singleton.mpr rfl, by rw [e]; exact ow d⟩)
    (fun b z => .inl ⟨_, List.mem_singleton.mpr rfl, by rw [(P1 b).mp z]; exact ow d⟩)
  refine ⟨by simp [n1.len], n1.lens, ?_, fun b o q nb => k b o (n1.keep b o q nb) fun e => ?_, fun b z => ?_, n1.sta.trans fun j m' d'' e hm' => ?_⟩
  · show RepL Z H2 ((ρ1.set i (.dat m d')).zip σ ++ T)
    rw [ez]
    exact j.perm (((p2 _).symm).append_right T)
  · subst e
    rcases n1.grow b owL with z | z
    · exact nb z
    · rw [q] at z; cases z
  · have z : OwnL ((ρ1.set i (.dat m d')).zip σ) b := z
    rw [ez] at z
    rcases OwnL.cons.mp ((OwnL.perm (p2 _)).mp z) with z | z
    · rw [ow' _ b z]; exact n1.grow a owL
    · exact n1.grow b ((OwnL.perm p1).mpr (OwnL.cons.mpr (.inr z)))
  · by_cases e' : i = j
    · subst e'
      rw [hs] at e
      cases e
      refine ⟨d', List.getElem?_set_self (List.getElem?_eq_some_iff.mp hs).1, fun z => ?_, rfl⟩
      subst z
      rcases hm with hm | hm <;> cases hm
    · exact ⟨d'', by rw [List.getElem?_set_ne e']; exact e, fun _ => rfl, rfl⟩
theorem NxG.of_chg {Vs : Nat → Bool} {Z : Addr → Prop} {T : List En} {x : En} {ρ ρ1 : Rh} {σ : SV} {H H1 : Hp} (n : Nx Z (x :: T) ρ σ H [] ρ1 σ H1) : NxG Vs Z T x ρ σ H ρ1 σ H1 :=
  ⟨n.len, n.lens, (n.rep.perm (by
    show ((ρ1.zip σ) ++ x :: T).Perm (x :: (ρ1.zip σ ++ T))
    exact List.perm_middle)).drop (P := [_]), n.keep, fun a z => (n.grow a z).imp .inr id, n.sta, fun _ _ => rfl⟩
end G
end
section
set_option Elab.async false
set_option linter.all false
set_option maxRecDepth 100000
namespace G
open PySem PySem.Spec L2
theorem Nx.lessT {Z : Addr → Prop} {T X : List En} {x : En} {ρ ρ1 : Rh} {σ σ1 : SV} {H H1 : Hp} (n : Nx Z (x :: T) ρ σ H X ρ1 σ1 H1) : Nx Z T ρ σ H X ρ1 σ1 H1 :=
  ⟨n.len, n.lens, n.rep.sub (((List.sublist_cons_self x T).append_left (ρ1.zip σ1)).append_left X), n.keep, n.grow, n.sta⟩
def okM : Mo → Prop
  | .ow => True
  | .bo => True
  | _ => False
theorem okM.or {m : Mo} (h : okM m) : m = .ow ∨ m = .bo := by
  cases m with
  | ow => exact .inl rfl
  | bo => exact .inr rfl
  | _ => exact h.elim
def okR : Mo → Prop
  | .sh => True
  | .ow => True
  | _ => False
theorem okR.or {m : Mo} (h : okR m) : m = .sh ∨ m = .ow := by
  cases m with
  | sh => exact .inl rfl
  | ow => exact .inr rfl
  | _ => exact h.elim
def gIx (i : Nat) (k : WO) : WGt := fun r ρ Q E => match ρ[i]? with
  | some (.dat _ _) => okR r.1 ∧ k ρ (fun a ρ2 => match ρ2[i]?, res ρ2 a with
    | some (.dat m (.lst xs)), some (_, .int j) => okM m ∧ (match ixN xs.length j with
      | some n => Q (ρ2.set i (.dat m (.lst (xs.set n r.2))))
      | none => False)
    | _, _ => False) E
  | _ => False
theorem gIx.mono {i : Nat} {k : WO} (mk : MonoG k) : MonoT (gIx i k) := fun r ρ Q Q' E E' hQ hE h => by
  unfold gIx at h ⊢
  split at h
  · refine ⟨h.1, mk _ _ _ _ _ (fun a ρ2 q => ?_) hE h.2⟩
    split at q
    · refine ⟨q.1, ?_⟩
      have q := q.2
      split at q
      · exact hQ _ q
      · exact q.elim
    · exact q.elim
  · exact h.elim
theorem Val.topD {H : Hp} {O : Addr → Prop} {m : Mo} {d : D} {v : V} (h : Val H O m d v) (hm : okM m) : ∃ a, v = .ref a ∧ O a ∧ Top H O d a := by
  rcases hm.or with rfl | rfl <;> exact h
section
variable {Vs : Nat → Bool} {X : Cx} {cl : Str → Value} {W : WX} {o i : Expr} {pos : Pos}
theorem gIxI {n : Nat} {k : WO} (mk : MonoG k) : ∀ v σ H Q, tGt Vs cl W (gIx n k) v σ H Q → gSub (tVar n) (tO cl W k) rSetL v σ H Q := fun v σ H Q q => by
  obtain ⟨Z, T, ρ, r, hl, rp, q⟩ := q
  unfold gIx at q
  split at q
  · rename_i m0 d0 e0
    obtain ⟨okr, q⟩ := q
    have rpS : RepL Z H (ρ.zip σ ++ (Slot.dat r.1 r.2, some v) :: T) := rp.perm (List.perm_middle (l₁ := ρ.zip σ)).symm
    obtain ⟨v0, s0, _, _⟩ := rpS.at_ hl e0
    refine ⟨v0, s0, Z, (Slot.dat r.1 r.2, some v) :: T, ρ, hl, rpS, mk _ _ _ _ _ (fun a ρ2 q kv X2 H2 e2 n2 => ?_) (fun x ρ2 q H2 n2 => q σ H2 (NxG.of_chg n2)) q⟩
    split at q
    · rename_i m xs mi j es ej
      obtain ⟨ok, q⟩ := q
      have nn := n2.lessT
      have n3 : Nx Z T ρ σ H [] ρ2 σ H2 := Nx.let (X := X2) (Y := []) (by rw [List.append_nil]; exact nn)
      have vk := view1 nn.len (X := X2) nn.rep e2 ej
      have ek := vk.int
      subst ek
      obtain ⟨v1, s1, _, hv⟩ := (show RepL Z H2 (ρ2.zip σ ++ T) from n3.rep).at_ n3.len es
      rw [s0] at s1
      cases s1
      obtain ⟨b, rfl, ob, t⟩ := hv.topD ok
      obtain ⟨ys, hb, r2⟩ := t
      split at q
      · rename_i p ep
        have dv : DV H2 (fun a => Z a ∨ OwnL (ρ2.zip σ ++ T) a) r.2 v := by
          have rp3 : RepL Z H2 (ρ2.zip σ ++ (Slot.dat r.1 r.2, some v) :: T) := n2.rep.drop
          exact (rp3.perm (List.perm_middle (l₁ := ρ2.zip σ))).temp okr.or
        refine ⟨b, ys, j, p, rfl, rfl, hb, by rw [r2.len]; exact ep, ?_⟩
        have k2 : ∀ c o, H2 c = some o → c ≠ b → (upd H2 b (.lst (ys.set p v))) c = some o := fun c o q ne => by rw [upd_ne ne]; exact q
        have k3 : ∀ c o, H2 c = some o → ¬ (Z c ∨ OwnL (ρ2.zip σ ++ T) c) → (upd H2 b (.lst (ys.set p v))) c = some o := fun c o q nc => k2 c o q fun e => nc (by rw [e]; exact ob)
        exact q σ _ (NxG.of_nx (o := fun _ _ => rfl) (n3.chg es ok.or s0 k2 ⟨_, upd_same, DVs.keep k3 (fun _ z => .inl z) _ _ (r2.set p dv)⟩))
      · exact q.elim
    · exact q.elim
  · exact q.elim
theorem pg_gIx {n : Nat} {k : WO} (mk : MonoG k) (ho : PE X o (tVar n)) (hi : PE X i (tO cl W k)) (ha : ∀ v, assign (.Subscript o i pos) X.env v = (do
      let ov ← holding [v] (eval o X.env)
      let iv ← holding [v, ov] (eval i X.env)
      standAt pos
      holding [v, ov, iv] (setItem ov iv v)
      release [v, ov, iv] [])) : PG X (.Subscript o i pos) (tGt Vs cl W (gIx n k)) := pg_imp (pg_sub ho hi set_list ha) (gIxI mk)
end
abbrev PM := D → List R → (R → D → Prop) → Prop
def MonoM (g : PM) : Prop := ∀ d rs (Q Q' : R → D → Prop), (∀ r d', Q r d' → Q' r d') → g d rs Q → g d rs Q'
def MOk (r : V → List V → Hp → VK → Prop) (g : PM) : Prop := ∀ (O : Addr → Prop) (H : Hp) (a : Addr) (d : D) (rs : List R) (vs : List V) (Qd : R → D → Prop) (Q : VK), O a → Top H O d a → Vws H O rs vs → g d rs Qd →
  (∀ dr d' v H', Qd (.sh, dr) d' → (∀ b o, H b = some o → b ≠ a → H' b = some o) → Top H' O d' a → DV H' O dr v → Q v H') → r (.ref a) vs H Q
def D.isLst : D → Bool
  | .lst _ => true
  | _ => false
def wMut (i : Nat) (ty : D → Bool) (g : PM) (wa : WA) : WE := fun ρ Q E => match ρ[i]? with
  | some (.dat _ d0) => ty d0 = true ∧ wa ρ (fun as ρ1 => match ρ1[i]?, ress ρ1 as with
    | some (.dat m d), some rs => okM m ∧ g d rs fun r d' => Q r (ρ1.set i (.dat m d'))
    | _, _ => False) E
  | _ => False
theorem wMut.mono {i : Nat} {ty : D → Bool} {g : PM} {wa : WA} (mg : MonoM g) (ma : MonoG wa) : MonoG (wMut i ty g wa) := fun ρ Q Q' E E' hQ hE h => by
  unfold wMut at h ⊢
  split at h
  · refine ⟨h.1, ma _ _ _ _ _ (fun as ρ1 q => ?_) hE h.2⟩
    split at q
    · exact ⟨q.1, mg _ _ _ _ (fun r d' => hQ _ _) q.2⟩
    · exact q.elim
  · exact h.elim
theorem tMut {K : PySem.W.Frag} {cl : Str → Value} {W : WX} {i : Nat} {g : PM} {wa : WA} {r : V → List V → Hp → VK → Prop} (ma : MonoG wa) (ok : MOk r g) : ∀ σ H Q, tE cl W (wMut i D.isLst g wa) σ H Q → tBM K "list" r (tVar i) (tA cl W wa) σ H Q := fun σ H Q q => by
  obtain ⟨Z, T, ρ, hl, rp, q⟩ := q
  unfold wMut at q
  split at q
  · rename_i m0 d0 e0
    obtain ⟨ht, q⟩ := q
    obtain ⟨v0, s0, _, hv0⟩ := rp.at_ hl e0
    refine ⟨v0, s0, ?_, Z, T, ρ, hl, rp, ma _ _ _ _ _ (fun as ρ1 q vs X1 H1 er n => ?_) (fun _ _ z => z) q⟩
    · cases d0 with
      | lst ds =>
        obtain ⟨p, xs, rfl, hp, _⟩ := hv0.cv.lst
        exact .inl ⟨rfl, xs, sqL_of hp⟩
      | _ => cases ht
    · split at q
      · rename_i m d rs es er2
        obtain ⟨om, q⟩ := q
        have n1 : Nx Z T ρ σ H [] ρ1 σ H1 := Nx.let (X := X1) (Y := []) (by rw [List.append_nil]; exact n)
        obtain ⟨v1, s1, ee, hv⟩ := (show RepL Z H1 (ρ1.zip σ ++ T) from n1.rep).at_ n1.len es
        rw [s0] at s1
        cases s1
        obtain ⟨b, rfl, ob, t⟩ := hv.topD om
        refine ok _ H1 b d rs vs _ Q ob t (views n.len n.rep er er2) q fun dr d' v H2 qd k t2 dv => ?_
        have n2 := n1.chg es om.or s0 k t2
        refine qd v _ H2 rfl (n2.valE ?_)
        refine DV.keep (fun _ _ q _ => q) (fun c z => .inl (z.imp id fun z => ?_)) _ _ dv
        have ez := zip_set1 (ρ := ρ1) (s := .dat m d') s0
        rcases OwnL.app.mp z with z | z
        · rw [ez] at z
          obtain ⟨rest, p1, p2⟩ := set_perm ee
          rcases OwnL.cons.mp ((OwnL.perm (p2 _)).mp z) with z | z
          · obtain ⟨_, _, e3, e4, e5⟩ := z
            cases e3
            exact OwnL.app.mpr (.inl ((OwnL.perm p1).mpr (OwnL.cons.mpr (.inl ⟨m, d, rfl, e4, e5⟩))))
          · exact OwnL.app.mpr (.inl ((OwnL.perm p1).mpr (OwnL.cons.mpr (.inr z))))
        · exact OwnL.app.mpr (.inr z)
      · exact q.elim
  · exact q.elim
def mAppend : PM := fun d rs Q => match d, rs with
  | .lst xs, [(.sh, y)] => xs.length < sizeLine ∧ Q (.sh, .non) (.lst (xs ++ [y]))
  | _, _ => False
def mExtend : PM := fun d rs Q => match d, rs with
  | .lst xs, [(m, .lst ys)] => m ≠ .fr ∧ xs.length + ys.length ≤ sizeLine ∧ Q (.sh, .non) (.lst (xs ++ ys))
  | _, _ => False
def mPop0 : PM := fun d rs Q => match d, rs with
  | .lst xs, [] => match xs[xs.length - 1]? with
    | some y => Q (.sh, y) (.lst xs.dropLast)
    | none => False
  | _, _ => False
def mPopAt : PM := fun d rs Q => match d, rs with
  | .lst xs, [(_, .int i)] => -(2 ^ 63) ≤ i ∧ i < 2 ^ 63 ∧ (match seqIndex? i xs.length with
    | some k => match xs[k]? with
      | some y => Q (.sh, y) (.lst (xs.eraseIdx k))
      | none => False
    | none => False)
  | _, _ => False
theorem mAppend.mono : MonoM mAppend := fun d rs Q Q' h q => by
  unfold mAppend at q ⊢
  split at q
  · exact ⟨q.1, h _ _ q.2⟩
  · exact q.elim
theorem mExtend.mono : MonoM mExtend := fun d rs Q Q' h q => by
  unfold mExtend at q ⊢
  split at q
  · exact ⟨q.1, q.2.1, h _ _ q.2.2⟩
  · exact q.elim
theorem mPop0.mono : MonoM mPop0 := fun d rs Q Q' h q => by
  unfold mPop0 at q ⊢
  split at q
  · split at q
    · exact h _ _ q
    · exact q.elim
  · exact q.elim
theorem mPopAt.mono : MonoM mPopAt := fun d rs Q Q' h q => by
  unfold mPopAt at q ⊢
  split at q
  · refine ⟨q.1, q.2.1, ?_⟩
    have q := q.2.2
    split at q
    · split at q
      · exact h _ _ q
      · exact q.elim
    · exact q.elim
  · exact q.elim
section
variable {O : Addr → Prop} {H : Hp} {a : Addr} {zs : List V}
theorem upd_keep {u : HO} : ∀ b o, H b = some o → b ≠ a → (upd H a u) b = some o := fun b o q ne => by rw [upd_ne ne]; exact q
theorem upd_off {u : HO} (ho : O a) : ∀ b o, H b = some o → ¬ O b → (upd H a u) b = some o := fun b o q n => upd_keep b o q fun e => n (by rw [e]; exact ho)
end
theorem mAppend.ok : MOk rAppend mAppend := by
  intro O H a d rs vs Qd Q oa t vw q k
  unfold mAppend at q
  split at q
  · rename_i xs y
    obtain ⟨ys, ha, r⟩ := t
    obtain ⟨v, rfl, hv⟩ := vws1 vw
    have hv : DV H O y v := hv
    refine ⟨a, ys, v, rfl, rfl, ha, by rw [r.len]; exact q.1, k _ _ _ _ q.2 upd_keep ⟨_, upd_same, ?_⟩ dv_non⟩
    exact DVs.keep (upd_off oa) (fun _ z => .inl z) _ _ (r.app (DVs.cons hv DVs.nil))
  · exact q.elim
theorem mExtend.ok : MOk rExtend mExtend := by
  intro O H a d rs vs Qd Q oa t vw q k
  unfold mExtend at q
  split at q
  · rename_i xs m y
    obtain ⟨ys, ha, r⟩ := t
    obtain ⟨v, rfl, hv⟩ := vws1 vw
    obtain ⟨b, zs, rfl, hb, r2⟩ := hv.lstT q.1
    refine ⟨a, b, ys, zs, rfl, rfl, ha, hb, by rw [r.len, r2.len]; exact q.2.1, k _ _ _ _ q.2.2 upd_keep ⟨_, upd_same, ?_⟩ dv_non⟩
    exact DVs.keep (upd_off oa) (fun _ z => .inl z) _ _ (r.app r2)
  · exact q.elim
theorem mPop0.ok : MOk rPop mPop0 := by
  intro O H a d rs vs Qd Q oa t vw q k
  unfold mPop0 at q
  split at q
  · rename_i xs
    obtain ⟨ys, ha, r⟩ := t
    have vw : vs = [] := vw
    subst vw
    split at q
    · rename_i y e
      obtain ⟨z, hz, dz⟩ := r.get e
      refine ⟨a, ys, z, rfl, rfl, ha, by rw [r.len]; exact hz, k _ _ _ _ q upd_keep ⟨_, upd_same, ?_⟩ (DV.keep (upd_off oa) (fun _ z => .inl z) _ _ dz)⟩
      exact DVs.keep (upd_off oa) (fun _ z => .inl z) _ _ r.dropLast
    · exact q.elim
  · exact q.elim
theorem mPopAt.ok : MOk rPopAt mPopAt := by
  intro O H a d rs vs Qd Q oa t vw q k
  unfold mPopAt at q
  split at q
  · rename_i xs m i
    obtain ⟨ys, ha, r⟩ := t
    obtain ⟨v, rfl, hv⟩ := vws1 vw
    have hv := hv.int
    subst hv
    obtain ⟨q1, q2, q⟩ := q
    split at q
    · rename_i n en
      split at q
      · rename_i y e
        obtain ⟨z, hz, dz⟩ := r.get e
        refine ⟨a, ys, i, n, z, rfl, rfl, ha, q1, q2, by rw [r.len]; exact en, hz, k _ _ _ _ q upd_keep ⟨_, upd_same, ?_⟩ (DV.keep (upd_off oa) (fun _ z => .inl z) _ _ dz)⟩
        exact DVs.keep (upd_off oa) (fun _ z => .inl z) _ _ (r.erase n)
      · exact q.elim
    · exact q.elim
  · exact q.elim
end G
end
section
set_option Elab.async false
set_option linter.all false
set_option maxRecDepth 100000
namespace G
open PySem PySem.Spec L2
def sNext : WS := fun ρ D => D.nx ρ
def sSeq (a b : WS) : WS := fun ρ D => a ρ { D with nx := fun ρ' => b ρ' D }
def sExpr (w : WE) : WS := fun ρ D => w ρ (fun _ ρ' => D.nx ρ') D.ex
def sRet (w : WE) : WS := fun ρ D => w ρ (fun r ρ' => D.rt r ρ') D.ex
def sRetN : WS := fun ρ D => D.rt (.sh, .non) ρ
def sAsg (w : WE) (g : WGt) : WS := fun ρ D => w ρ (fun r ρ1 => g r ρ1 D.nx D.ex) D.ex
def sIf (t : WT) (a b : WS) : WS := fun ρ D => t ρ (fun x ρ1 => if x = true then a ρ1 D else b ρ1 D) D.ex
def sBreak : WS := fun ρ D => D.bk ρ
def sCont : WS := fun ρ D => D.ct ρ
def sNever : WS := fun _ _ => False
def sAug (i : Nat) (f : P2) (oe : WO) : WS := fun ρ D => match ρ[i]? with
  | some (.dat .sh (.int _)) => oe ρ (fun a ρ1 => match ρ1[i]?, res ρ1 a with
    | some (.dat .sh (.int x)), some y => f (.sh, .int x) y fun r => D.nx (ρ1.set i (.dat r.1 r.2))
    | _, _ => False) D.ex
  | _ => False
def sWhile (t : WT) (b : WS) : WS := fun ρ D => ∃ I : Nat → Rh → Prop, (∃ n, I n ρ) ∧ ∀ n ρ1, I n ρ1 → t ρ1 (fun x ρ2 => if x = true then b ρ2 { D with nx := fun ρ3 => ∃ k, k < n ∧ I k ρ3, ct := fun ρ3 => ∃ k, k < n ∧ I k ρ3, bk := D.nx } else D.nx ρ2) D.ex
theorem Ed.Le.refl (D : Ed) : D.Le D := ⟨fun _ z => z, fun _ _ z => z, fun _ z => z, fun _ z => z, fun _ _ z => z⟩
theorem sNext.mono : MonoS sNext := fun ρ D D' h q => h.nx _ q
theorem sSeq.mono {a b : WS} (ma : MonoS a) (mb : MonoS b) : MonoS (sSeq a b) := fun ρ D D' h q => by
  have q : a ρ { D with nx := fun ρ' => b ρ' D } := q
  refine ma ρ _ { D' with nx := fun ρ' => b ρ' D' } ?_ q
  exact ⟨fun ρ' z => mb ρ' D D' h z, h.rt, h.bk, h.ct, h.ex⟩
theorem sExpr.mono {w : WE} (m : MonoG w) : MonoS (sExpr w) := fun ρ D D' h q => m _ _ _ _ _ (fun _ _ z => h.nx _ z) h.ex q
theorem sRet.mono {w : WE} (m : MonoG w) : MonoS (sRet w) := fun ρ D D' h q => m _ _ _ _ _ (fun _ _ z => h.rt _ _ z) h.ex q
theorem sRetN.mono : MonoS sRetN := fun ρ D D' h q => h.rt _ _ q
theorem sAsg.mono {w : WE} {g : WGt} (m : MonoG w) (mg : MonoT g) : MonoS (sAsg w g) := fun ρ D D' h q => m _ _ _ _ _ (fun _ _ z => mg _ _ _ _ _ _ h.nx h.ex z) h.ex q
theorem sIf.mono {t : WT} {a b : WS} (mt : MonoG t) (ma : MonoS a) (mb : MonoS b) : MonoS (sIf t a b) := fun ρ D D' h q => mt _ _ _ _ _ (fun x _ z => by
  cases x with
  | true => exact ma _ _ _ h z
  | false => exact mb _ _ _ h z) h.ex q
theorem sBreak.mono : MonoS sBreak := fun ρ D D' h q => h.bk _ q
theorem sCont.mono : MonoS sCont := fun ρ D D' h q => h.ct _ q
theorem sNever.mono : MonoS sNever := fun ρ D D' h q => q
theorem sAug.mono {i : Nat} {f : P2} {oe : WO} (mf : Mono2 f) (me : MonoG oe) : MonoS (sAug i f oe) := fun ρ D D' h q => by
  unfold sAug at q ⊢
  split at q
  · refine me _ _ _ _ _ (fun a ρ1 z => ?_) h.ex q
    split at z
    · exact mf _ _ _ _ (fun r => h.nx _) z
    · exact z.elim
  · exact q.elim
theorem sWhile.mono {t : WT} {b : WS} (mt : MonoG t) (mb : MonoS b) : MonoS (sWhile t b) := fun ρ D D' h q => by
  obtain ⟨I, h0, h1⟩ := q
  refine ⟨I, h0, fun n ρ1 hI => mt _ _ _ _ _ (fun x ρ2 z => ?_) h.ex (h1 n ρ1 hI)⟩
  cases x with
  | true =>
    rw [if_pos rfl] at z ⊢
    refine mb ρ2 _ _ ?_ z
    exact ⟨fun _ z => z, h.rt, h.nx, fun _ z => z, h.ex⟩
  | false => exact h.nx _ z
section
variable {Vs : Nat → Bool} {X : Cx} {cl : Str → Value} {W : WX} {e : Expr} {st : Stmt} {rest : List Stmt} {pos : Pos}
theorem pss_sNext : PSs X [] (tSS cl W sNext) := pss_imp pss_nil fun D σ H q => by
  obtain ⟨Z, T, ρ, hl, r, q⟩ := q
  exact q σ H (Nx.refl hl r)
theorem tSS.next {a : WS} (ma : MonoS a) {Z : Addr → Prop} {T : List En} {ρ ρ1 : Rh} {σ σ1 : SV} {H H1 : Hp} {De : Ends} (n : Nx Z T ρ σ H [] ρ1 σ1 H1)
    (q : a ρ1 { nx := fun ρ' => ∀ σ' H', Nx Z T ρ σ H [] ρ' σ' H' → De.nx σ' H', rt := fun r ρ' => ∀ v σ' H', Nx Z T ρ σ H [(.dat r.1 r.2, some v)] ρ' σ' H' → De.rt v H', bk := fun ρ' => ∀ σ' H', Nx Z T ρ σ H [] ρ' σ' H' → De.bk σ' H',
                ct := fun ρ' => ∀ σ' H', Nx Z T ρ σ H [] ρ' σ' H' → De.ct σ' H', ex := fun x ρ' => ∀ σ' H', Nx Z T ρ σ H [] ρ' σ' H' → W (cl x) none σ' H' }) : tSS cl W a De σ1 H1 := by
  refine ⟨Z, T, ρ1, n.len, n.rep, ma ρ1 _ _ ?_ q⟩
  exact ⟨fun ρ2 q σ2 H2 n2 => q σ2 H2 (n.trans n2), fun r ρ2 q v σ2 H2 n2 => q v σ2 H2 (n.trans n2), fun ρ2 q σ2 H2 n2 => q σ2 H2 (n.trans n2), fun ρ2 q σ2 H2 n2 => q σ2 H2 (n.trans n2), fun x ρ2 q σ2 H2 n2 => q σ2 H2 (n.trans n2)⟩
theorem seqI {a b : WS} (ma : MonoS a) (mb : MonoS b) : ∀ De σ H, tSS cl W (sSeq a b) De σ H → tSeq (tSS cl W a) (tSS cl W b) De σ H := fun De σ H q => by
  obtain ⟨Z, T, ρ, hl, r, q⟩ := q
  unfold sSeq at q
  refine ⟨Z, T, ρ, hl, r, ma ρ _ _ ?_ q⟩
  refine ⟨fun ρ1 q σ1 H1 n => ?_, fun _ _ z => z, fun _ z => z, fun _ z => z, fun _ _ z => z⟩
  exact tSS.next mb n q
theorem exprI {w : WE} (m : MonoG w) : ∀ De σ H, tSS cl W (sExpr w) De σ H → tDrop (tE cl W w) De σ H := fun De σ H q => by
  obtain ⟨Z, T, ρ, hl, r, q⟩ := q
  exact ⟨Z, T, ρ, hl, r, m _ _ _ _ _ (fun a ρ1 q v Y H1 er n => q σ H1 (by have er : Y = _ := er; subst er; exact n.drop1)) (fun x ρ1 q H1 n => q σ H1 n) q⟩
theorem retI {w : WE} (m : MonoG w) : ∀ De σ H, tSS cl W (sRet w) De σ H → tRet (tE cl W w) De σ H := fun De σ H q => by
  obtain ⟨Z, T, ρ, hl, r, q⟩ := q
  exact ⟨Z, T, ρ, hl, r, m _ _ _ _ _ (fun a ρ1 q v Y H1 er n => q v σ H1 (by have er : Y = _ := er; subst er; exact n)) (fun x ρ1 q H1 n => q σ H1 n) q⟩
theorem retNI : ∀ De σ H, tSS cl W sRetN De σ H → tRetN De σ H := fun De σ H q => by
  obtain ⟨Z, T, ρ, hl, r, q⟩ := q
  exact q .non σ H (Nx.val hl r dv_non)
theorem asgI {w : WE} {g : WGt} (m : MonoG w) (mg : MonoT g) : ∀ De σ H, tSS cl W (sAsg w g) De σ H → tAsg (tE cl W w) (tGt Vs cl W g) De σ H := fun De σ H q => by
  obtain ⟨Z, T, ρ, hl, r, q⟩ := q
  refine ⟨Z, T, ρ, hl, r, m _ _ _ _ _ (fun a ρ1 q v Y H1 er n => ?_) (fun x ρ1 q H1 n => q σ H1 n) q⟩
  have er : Y = _ := er
  subst er
  exact ⟨Z, T, ρ1, a, n.len, n.rep, mg _ _ _ _ _ _ (fun ρ2 q σ2 H2 n2 => q σ2 H2 (n.tgt n2)) (fun x ρ2 q σ2 H2 n2 => q σ2 H2 (n.tgt n2)) q⟩
theorem ifI {t : WT} {a b : WS} (mt : MonoG t) (ma : MonoS a) (mb : MonoS b) : ∀ De σ H, tSS cl W (sIf t a b) De σ H → tIfS (tT cl W t) (tSS cl W a) (tSS cl W b) De σ H := fun De σ H q => by
  obtain ⟨Z, T, ρ, hl, r, q⟩ := q
  refine ⟨Z, T, ρ, hl, r, mt _ _ _ _ _ (fun x ρ1 q y Y H1 er n => ?_) (fun x ρ1 q H1 n => q σ H1 n) q⟩
  obtain ⟨rfl, rfl⟩ := er
  cases x with
  | true =>
    rw [if_pos rfl] at q ⊢
    exact tSS.next ma n q
  | false =>
    rw [if_neg Bool.false_ne_true] at q ⊢
    exact tSS.next mb n q
theorem breakI : ∀ De σ H, tSS cl W sBreak De σ H → tBreak De σ H := fun De σ H q => by
  obtain ⟨Z, T, ρ, hl, r, q⟩ := q
  exact q σ H (Nx.refl hl r)
theorem contI : ∀ De σ H, tSS cl W sCont De σ H → tCont De σ H := fun De σ H q => by
  obtain ⟨Z, T, ρ, hl, r, q⟩ := q
  exact q σ H (Nx.refl hl r)
theorem augI {i : Nat} {f : P2} {oe : WO} {r : R2} (me : MonoG oe) (mf : Mono2 f) (ok : POk2 r f) : ∀ De σ H, tSS cl W (sAug i f oe) De σ H → tAug i (tO cl W oe) r De σ H := fun De σ H q => by
  obtain ⟨Z, T, ρ, hl, rp, q⟩ := q
  unfold sAug at q
  split at q
  · rename_i x0 e0
    obtain ⟨v0, s0, _, hv0⟩ := rp.at_ hl e0
    refine ⟨v0, s0, Z, T, ρ, hl, rp, me _ _ _ _ _ (fun a ρ1 q v X1 H1 e1 n => ?_) (fun x ρ1 q H1 n => q σ H1 n) q⟩
    split at q
    · rename_i x y es ey
      have n1 : Nx Z T ρ σ H [] ρ1 σ H1 := Nx.let (X := X1) (Y := []) (by rw [List.append_nil]; exact n)
      obtain ⟨v1, s1, _, hv⟩ := (show RepL Z H1 (ρ1.zip σ ++ T) from n1.rep).at_ n1.len es
      rw [s0] at s1
      cases s1
      refine ok _ H1 (.sh, .int x) y v0 v _ _ (fun p hp => fresh_off n.rep.drop hp) hv (view1 n.len n.rep e1 ey) q fun m d v2 H2 qd o => ?_
      have c : canSet ρ1 i := by unfold canSet; rw [es]; exact True.intro
      exact qd _ H2 ((n.out o).tgt (NxG.set (Vs := fun _ => true) (r := (m, d)) n.len (n.out o).rep c rfl))
    · exact q.elim
  · exact q.elim
theorem whileI {t : WT} {b : WS} (mt : MonoG t) (mb : MonoS b) : ∀ De σ H, tSS cl W (sWhile t b) De σ H → tWhile (tT cl W t) (tSS cl W b) De σ H := fun De σ H q => by
  obtain ⟨Z, T, ρ, hl, r, I, ⟨m0, h0⟩, h1⟩ := q
  refine ⟨fun m σ' H' => ∃ ρ', Nx Z T ρ σ H [] ρ' σ' H' ∧ I m ρ', ⟨m0, ρ, Nx.refl hl r, h0⟩, ?_⟩
  rintro m σ1 H1 ⟨ρ1, n1, hI⟩
  refine ⟨Z, T, ρ1, n1.len, n1.rep, mt _ _ _ _ _ (fun x ρ2 q y Y H2 er n2 => ?_) (fun x ρ2 q H2 n2 => q σ1 H2 (n1.trans n2)) (h1 m ρ1 hI)⟩
  obtain ⟨rfl, rfl⟩ := er
  have n := n1.trans n2
  cases x with
  | true =>
    rw [if_pos rfl] at q ⊢
    refine ⟨fun σ3 H3 => ∃ ρ3, Nx Z T ρ σ H [] ρ3 σ3 H3 ∧ ∃ k, k < m ∧ I k ρ3, ?_, Z, T, ρ2, n.len, n.rep, mb ρ2 _ _ ?_ q⟩
    · rintro σ3 H3 ⟨ρ3, n3, k, l3, i3⟩
      exact ⟨k, l3, ρ3, n3, i3⟩
    · exact ⟨fun ρ3 q σ3 H3 n3 => ⟨ρ3, n.trans n3, q⟩, fun r ρ3 q v σ3 H3 n3 => q v σ3 H3 (n.trans n3), fun ρ3 q σ3 H3 n3 => q σ3 H3 (n.trans n3), fun ρ3 q σ3 H3 n3 => ⟨ρ3, n.trans n3, q⟩, fun x ρ3 q σ3 H3 n3 => q σ3 H3 (n.trans n3)⟩
  | false => exact q σ1 H2 n
end
def wMove (i : Nat) : WE := fun ρ Q _ => match ρ[i]? with
  | some (.dat .sh d) => Q (.sh, d) ρ
  | some (.dat .ow d) => Q (.ow, d) (ρ.set i .un)
  | _ => False
theorem wMove.mono (i : Nat) : MonoG (wMove i) := fun ρ Q Q' E E' hQ _ h => by
  unfold wMove at h ⊢
  split at h
  · exact hQ _ _ h
  · exact hQ _ _ h
  · exact h.elim
theorem Nx.move {Z : Addr → Prop} {T : List En} {ρ : Rh} {σ : SV} {H : Hp} {i : Nat} {d : D} {v : V} (hl : ρ.length = σ.length) (r : RepL Z H (ρ.zip σ ++ T)) (h : ρ[i]? = some (.dat .ow d)) (hv : σ[i]? = some (some v)) : Nx Z T ρ σ H [(.dat .ow d, some v)] (ρ.set i .un) σ H := by
  obtain ⟨v', h1, h2, _⟩ := r.at_ hl h
  rw [hv] at h1
  cases h1
  obtain ⟨rest, r1, p1, p2⟩ := r.front h2
  have no : ∀ a, ¬ own (Slot.un, some v) a := fun a ⟨_, _, e, _⟩ => by cases e
  have e := zip_set1 (ρ := ρ) (s := .un) hv
  refine ⟨by simp [hl], rfl, ?_, .refl, fun a z => .inl ?_, fun j m d' e' hm => ?_⟩
  · rw [e]
    have r2 : RepL Z H ((Slot.un, some v) :: (.dat .ow d, some v) :: (rest ++ T)) := r1.push (fun m d' e => by cases e) no
    exact r2.perm ((List.Perm.swap _ _ _).trans ((((p2 _).symm).append_right T).cons _))
  · rw [e] at z
    rcases OwnL.cons.mp z with z | z
    · exact ⟨_, List.mem_of_getElem? h2, z⟩
    · rcases OwnL.cons.mp ((OwnL.perm (p2 _)).mp z) with z | z
      · exact (no a z).elim
      · exact (OwnL.perm p1).mpr (OwnL.cons.mpr (.inr z))
  · have ne : i ≠ j := fun z => by
      subst z
      rw [h] at e'
      cases e'
      rcases hm with hm | hm <;> cases hm
    exact ⟨d', by rw [List.getElem?_set_ne ne]; exact e', fun _ => rfl, rfl⟩
theorem pe_wMove {X : Cx} {cl : Str → Value} {W : WX} {i : Nat} {x : Str} {pos : Pos} (h : PE X (.Name x pos) (tVar i)) : PE X (.Name x pos) (tE cl W (wMove i)) := pe_imp h fun σ H Q q => by
  obtain ⟨Z, T, ρ, hl, r, q⟩ := q
  unfold wMove at q
  split at q
  · rename_i d e
    obtain ⟨v, h1, h2, _⟩ := r.at_ hl e
    exact ⟨v, h1, q v _ H rfl (Nx.dup hl r h2)⟩
  · rename_i d e
    obtain ⟨v, h1, h2, hv⟩ := r.at_ hl e
    exact ⟨v, h1, q v _ H rfl (Nx.move hl r e h1)⟩
  · exact q.elim
end G
end
section
set_option Elab.async false
set_option linter.all false
set_option maxRecDepth 100000
namespace G
open PySem PySem.Spec L2
def Eqv (x y : Slot) : Prop := x = y ∨ ∃ m m' d, x = .dat m d ∧ y = .dat m' d ∧ m.own = true ∧ m'.own = true
def EqR (ρ ρ' : Rh) : Prop := ρ.length = ρ'.length ∧ ∀ (i : Nat) (x y : Slot), ρ[i]? = some x → ρ'[i]? = some y → Eqv x y
theorem Eqv.symm {x y : Slot} (h : Eqv x y) : Eqv y x := by
  rcases h with h | ⟨m, m', d, e1, e2, h1, h2⟩
  · exact .inl h.symm
  · exact .inr ⟨m', m, d, e2, e1, h2, h1⟩
theorem EqR.symm {ρ ρ' : Rh} (h : EqR ρ ρ') : EqR ρ' ρ := ⟨h.1.symm, fun i x y e1 e2 => (h.2 i y x e2 e1).symm⟩
theorem Eqv.own {x y : Slot} {ov : Option V} (h : Eqv x y) {a : Addr} (o : G.own (x, ov) a) : G.own (y, ov) a := by
  rcases h with rfl | ⟨m, m', d, rfl, rfl, h1, h2⟩
  · exact o
  · obtain ⟨_, _, e1, _, e3⟩ := o
    exact ⟨m', d, rfl, h2, e3⟩
theorem Eqv.ok {H : Hp} {O : Addr → Prop} {x y : Slot} {ov : Option V} (h : Eqv x y) (o : EntOk H O (x, ov)) : EntOk H O (y, ov) := by
  rcases h with rfl | ⟨m, m', d, rfl, rfl, h1, h2⟩
  · exact o
  · intro m2 d2 e
    cases e
    obtain ⟨v, e, hv⟩ := o m d rfl
    exact ⟨v, e, (Val.of_own h2).mpr ((Val.of_own h1).mp hv)⟩
theorem EqR.zip {ρ ρ' : Rh} {σ : SV} (h : EqR ρ ρ') : ∀ y ∈ ρ'.zip σ, ∃ (i : Nat) (x : En), ρ[i]? = some x.1 ∧ (ρ.zip σ)[i]? = some x ∧ (ρ'.zip σ)[i]? = some y ∧ Eqv x.1 y.1 ∧ x.2 = y.2 := fun y hy => by
  obtain ⟨i, hi, e⟩ := List.mem_iff_getElem.mp hy
  have e' : (ρ'.zip σ)[i]? = some y := by rw [List.getElem?_eq_getElem hi, e]
  rw [List.getElem?_zip_eq_some] at e'
  have hl : i < ρ.length := by rw [h.1]; exact (List.getElem?_eq_some_iff.mp e'.1).1
  refine ⟨i, (ρ[i], y.2), by simp [hl], List.getElem?_zip_eq_some.mpr ⟨by simp [hl], e'.2⟩, List.getElem?_zip_eq_some.mpr e', h.2 i _ _ (by simp [hl]) e'.1, rfl⟩
theorem EqR.ownL {ρ ρ' : Rh} {σ : SV} (h : EqR ρ ρ') {a : Addr} (o : OwnL (ρ'.zip σ) a) : OwnL (ρ.zip σ) a := by
  obtain ⟨y, hy, oy⟩ := o
  obtain ⟨i, x, _, e2, _, eq, e4⟩ := h.zip y hy
  refine ⟨x, List.mem_of_getElem? e2, ?_⟩
  obtain ⟨x1, x2⟩ := x
  obtain ⟨y1, y2⟩ := y
  simp only at e4
  subst e4
  exact eq.symm.own oy
theorem RepL.label {Z : Addr → Prop} {H : Hp} {ρ ρ' : Rh} {σ : SV} {T : List En} (h : EqR ρ ρ') (r : RepL Z H (ρ.zip σ ++ T)) : RepL Z H (ρ'.zip σ ++ T) := by
  have ow : ∀ a, OwnL (ρ'.zip σ ++ T) a ↔ OwnL (ρ.zip σ ++ T) a := fun a => by
    rw [OwnL.app, OwnL.app]
    exact ⟨fun z => z.imp h.ownL id, fun z => z.imp h.symm.ownL id⟩
  refine ⟨fun y hy => ?_, fun a z => r.out a ((ow a).mp z), ?_, r.zt⟩
  · have fin : ∀ x, x ∈ ρ.zip σ ++ T → Eqv x.1 y.1 → x.2 = y.2 → EntOk H (fun a => Z a ∨ OwnL (ρ'.zip σ ++ T) a) y := fun x hx eq e => by
      have := r.ok x hx
      obtain ⟨x1, x2⟩ := x
      obtain ⟨y1, y2⟩ := y
      simp only at e eq
      subst e
      exact (eq.ok this).off (fun b z => .inl (z.imp id (ow b).mp)) fun a o => .inr ⟨_, hy, o⟩
    rcases List.mem_append.mp hy with hy' | hy'
    · obtain ⟨i, x, _, e2, _, eq, e4⟩ := h.zip y hy'
      exact fin x (List.mem_append_left _ (List.mem_of_getElem? e2)) eq e4
    · exact fin y (List.mem_append_right _ hy') (.inl rfl) rfl
  · have key : ∀ (A B : Rh) (τ : SV), A.length = B.length → (∀ (i : Nat) (x y : Slot), A[i]? = some x → B[i]? = some y → Eqv x y) → (A.zip τ ++ T).Pairwise (fun x y => ∀ a, own x a → own y a → False) → (B.zip τ ++ T).Pairwise (fun x y => ∀ a, own x a → own y a → False) := by
      intro A
      induction A with
      | nil =>
        intro B τ hl _ p
        cases B with
        | nil => exact p
        | cons => simp at hl
      | cons a A ih =>
        intro B τ hl hh p
        cases B with
        | nil => simp at hl
        | cons b B =>
          cases τ with
          | nil => simpa using p
          | cons v τ =>
            rw [List.zip_cons_cons, List.cons_append, List.pairwise_cons] at p ⊢
            have hAB : ∀ (i : Nat) (x y : Slot), A[i]? = some x → B[i]? = some y → Eqv x y := fun i x y e1 e2 => hh (i + 1) x y (by simpa using e1) (by simpa using e2)
            have eq : EqR A B := ⟨by simpa using hl, hAB⟩
            refine ⟨fun y hy c o1 o2 => ?_, ih B τ (by simpa using hl) hAB p.2⟩
            have oa : own (a, v) c := (hh 0 a b rfl rfl).symm.own o1
            have oL : OwnL (A.zip τ ++ T) c := by
              rcases List.mem_append.mp hy with hy | hy
              · exact OwnL.app.mpr (.inl (eq.ownL ⟨y, hy, o2⟩))
              · exact OwnL.app.mpr (.inr ⟨y, hy, o2⟩)
            obtain ⟨z, hz, oz⟩ := oL
            exact p.1 z hz c oa oz
    exact key ρ ρ' σ h.1 h.2 r.dis
def locs : List Ar → List Nat
  | [] => []
  | .loc i :: r => i :: locs r
  | _ :: r => locs r
def lent : Slot → Slot
  | .dat .ow d => .dat .ln d
  | .dat .bo d => .dat .ln d
  | s => s
def lendI (ls : List Nat) : Nat → Rh → Rh
  | _, [] => []
  | k, s :: r => (if ls.contains k then lent s else s) :: lendI ls (k + 1) r
def lend (ls : List Nat) (ρ : Rh) : Rh := lendI ls 0 ρ
def back1 : Slot → Slot → Slot
  | .dat .ow d, _ => .dat .ow d
  | .dat .bo d, _ => .dat .bo d
  | _, s => s
def homeI (ls : List Nat) : Nat → Rh → Rh → Rh
  | k, o :: ro, s :: r => (if ls.contains k then back1 o s else s) :: homeI ls (k + 1) ro r
  | _, _, r => r
def home (ls : List Nat) (o ρ : Rh) : Rh := homeI ls 0 o ρ
theorem lendI_at (ls : List Nat) : ∀ (ρ : Rh) (k i : Nat), (lendI ls k ρ)[i]? = (ρ[i]?).map fun s => if ls.contains (k + i) then lent s else s
  | [], k, i => by simp [lendI]
  | s :: r, k, 0 => by simp [lendI]
  | s :: r, k, i + 1 => by
    have := lendI_at ls r (k + 1) i
    simp only [lendI, List.getElem?_cons_succ]
    rw [this, show k + 1 + i = k + (i + 1) by omega]
theorem lend_at (ls : List Nat) (ρ : Rh) (i : Nat) : (lend ls ρ)[i]? = (ρ[i]?).map fun s => if ls.contains i then lent s else s := by
  have := lendI_at ls ρ 0 i
  rw [Nat.zero_add] at this
  exact this
theorem homeI_at (ls : List Nat) : ∀ (o ρ : Rh) (k i : Nat), o.length = ρ.length → (homeI ls k o ρ)[i]? = (match o[i]?, ρ[i]? with
    | some a, some s => some (if ls.contains (k + i) then back1 a s else s)
    | _, x => x)
  | [], [], k, i, _ => by simp [homeI]
  | [], _ :: _, _, _, h => by simp at h
  | _ :: _, [], _, _, h => by simp at h
  | a :: o, s :: r, k, 0, _ => by simp [homeI]
  | a :: o, s :: r, k, i + 1, h => by
    have := homeI_at ls o r (k + 1) i (by simpa using h)
    simp only [homeI, List.getElem?_cons_succ]
    rw [this, show k + 1 + i = k + (i + 1) by omega]
theorem home_at {ls : List Nat} {o ρ : Rh} (h : o.length = ρ.length) (i : Nat) : (home ls o ρ)[i]? = (match o[i]?, ρ[i]? with
    | some a, some s => some (if ls.contains i then back1 a s else s)
    | _, x => x) := by
  have := homeI_at ls o ρ 0 i h
  rw [Nat.zero_add] at this
  exact this
theorem lend_len (ls : List Nat) (ρ : Rh) : (lend ls ρ).length = ρ.length := by
  have : ∀ (ρ : Rh) (k : Nat), (lendI ls k ρ).length = ρ.length := by
    intro ρ
    induction ρ with
    | nil => intro k; rfl
    | cons s r ih => intro k; simp [lendI, ih]
  exact this ρ 0
theorem home_len {ls : List Nat} {o ρ : Rh} (h : o.length = ρ.length) : (home ls o ρ).length = ρ.length := by
  have : ∀ (o ρ : Rh) (k : Nat), o.length = ρ.length → (homeI ls k o ρ).length = ρ.length := by
    intro o
    induction o with
    | nil => intro ρ k h; cases ρ with
      | nil => rfl
      | cons => simp at h
    | cons s r ih => intro ρ k h; cases ρ with
      | nil => simp at h
      | cons x ρ => simp [homeI, ih ρ (k + 1) (by simpa using h)]
  exact this o ρ 0 h
theorem lent_eqv (s : Slot) : Eqv s (lent s) := by
  cases s with
  | un => exact .inl rfl
  | dat m d => cases m with
    | ow => exact .inr ⟨.ow, .ln, d, rfl, rfl, rfl, rfl⟩
    | bo => exact .inr ⟨.bo, .ln, d, rfl, rfl, rfl, rfl⟩
    | _ => exact .inl rfl
theorem lend_eqR (ls : List Nat) (ρ : Rh) : EqR ρ (lend ls ρ) := ⟨(lend_len ls ρ).symm, fun i x y e1 e2 => by
  rw [lend_at, e1] at e2
  cases e2
  split
  · exact lent_eqv x
  · exact .inl rfl⟩
theorem home_eqR {ls : List Nat} {o ρ : Rh} {σ σ' : SV} (hl : o.length = ρ.length) (st : Sta (lend ls o) σ ρ σ') : EqR ρ (home ls o ρ) := ⟨(home_len hl).symm, fun i x y e1 e2 => by
  have hi : i < o.length := by rw [hl]; exact (List.getElem?_eq_some_iff.mp e1).1
  have eo : o[i]? = some o[i] := by simp [hi]
  rw [home_at hl, eo, e1] at e2
  cases e2
  split
  · rename_i c
    have le : (lend ls o)[i]? = some (lent o[i]) := by rw [lend_at, eo, Option.map_some, if_pos c]
    cases q : o[i] with
    | un => exact .inl rfl
    | dat m d =>
      rw [q] at le
      cases m with
      | ow =>
        obtain ⟨d', h1, h2, _⟩ := st i .ln d le (.inr rfl)
        rw [e1] at h1
        cases h1
        cases h2 rfl
        exact .inr ⟨.ln, .ow, d, rfl, rfl, rfl, rfl⟩
      | bo =>
        obtain ⟨d', h1, h2, _⟩ := st i .ln d le (.inr rfl)
        rw [e1] at h1
        cases h1
        cases h2 rfl
        exact .inr ⟨.ln, .bo, d, rfl, rfl, rfl, rfl⟩
      | _ => exact .inl rfl
  · exact .inl rfl⟩
theorem home_sta {ls : List Nat} {o ρ : Rh} {σ σ' : SV} (hl : o.length = ρ.length) (st : Sta (lend ls o) σ ρ σ') : Sta o σ (home ls o ρ) σ' := fun i m d e hm => by
  have le : (lend ls o)[i]? = some (if ls.contains i then lent (.dat m d) else .dat m d) := by rw [lend_at, e]; rfl
  have hi : i < ρ.length := by rw [← hl]; exact (List.getElem?_eq_some_iff.mp e).1
  have er : ρ[i]? = some ρ[i] := by simp [hi]
  have eh := home_at (ls := ls) hl i
  rw [e, er] at eh
  by_cases c : ls.contains i = true
  · simp only [c, if_true] at le eh
    rcases hm with rfl | rfl
    · obtain ⟨d', h1, h2, h3⟩ := st i .ln d le (.inr rfl)
      exact ⟨d, (show (home ls o ρ)[i]? = some (.dat .bo d) from eh), (fun z => by cases z), h3⟩
    · obtain ⟨d', h1, h2, h3⟩ := st i .ln d le (.inr rfl)
      rw [er] at h1
      rw [Option.some.inj h1] at eh
      exact ⟨d', eh, h2, h3⟩
  · simp only [c, Bool.false_eq_true, if_false] at le eh
    obtain ⟨d', h1, h2, h3⟩ := st i m d le hm
    rw [er] at h1
    rw [Option.some.inj h1] at eh
    exact ⟨d', eh, h2, h3⟩
theorem Nx.home {Z : Addr → Prop} {T X : List En} {ls : List Nat} {ρ ρ1 : Rh} {σ σ1 : SV} {H H1 : Hp} (hl : ρ.length = σ.length) (n : Nx Z T (lend ls ρ) σ H X ρ1 σ1 H1) : Nx Z T ρ σ H X (G.home ls ρ ρ1) σ1 H1 := by
  have hl2 : ρ.length = ρ1.length := by rw [hl, n.len, n.lens]
  have eq := home_eqR hl2 n.sta
  have el := lend_eqR ls ρ
  refine ⟨by rw [home_len hl2]; exact n.len, n.lens, ?_, fun b o q nb => n.keep b o q fun z => nb (el.ownL z), fun a z => ?_, home_sta hl2 n.sta⟩
  · have r : RepL Z H1 (ρ1.zip σ1 ++ (X ++ T)) := n.rep.perm (by
      rw [← List.append_assoc, ← List.append_assoc]
      exact (List.perm_append_comm (l₁ := X) (l₂ := ρ1.zip σ1)).append_right T)
    refine (r.label eq).perm ?_
    rw [← List.append_assoc, ← List.append_assoc]
    exact (List.perm_append_comm (l₁ := (G.home ls ρ ρ1).zip σ1) (l₂ := X)).append_right T
  · have z2 : OwnL (X ++ ρ1.zip σ1) a := by
      rcases OwnL.app.mp z with z | z
      · exact OwnL.app.mpr (.inl z)
      · exact OwnL.app.mpr (.inr (eq.ownL z))
    exact (n.grow a z2).imp (fun q => el.ownL q) id
end G
end
section
set_option Elab.async false
set_option linter.all false
set_option maxRecDepth 100000
namespace G
open PySem PySem.Spec L2
def Ents : List En → List R → List V → Prop
  | [], [], [] => True
  | e :: es, r :: rs, v :: vs => (∃ m, e = (.dat m r.2, some v) ∧ (r.1 = .fr ↔ m = .fr)) ∧ Ents es rs vs
  | _, _, _ => False
structure Src (J : It) (items : List D) (es : List En) : Prop where
  go : ∀ (Z : Addr → Prop) (H : Hp) (S : List En), RepL Z H S → (∀ e ∈ es, e ∈ S) → ∀ (i : Nat) (d : D), items[i]? = some d → J.go i H ∧ ∀ x H', J.yld i H x H' → Same H H' ∧ DV H' (fun a => Z a ∨ OwnL S a) d x
  stop : ∀ (Z : Addr → Prop) (H : Hp) (S : List En), RepL Z H S → (∀ e ∈ es, e ∈ S) → ∀ i : Nat, items.length ≤ i → J.stop i H
abbrev RI := List V → Hp → (It → Hp → Prop) → Prop
abbrev FI := List R → List D → Prop
def IOk (r : RI) (f : FI) : Prop := ∀ (Z : Addr → Prop) (H : Hp) (S es : List En) (rs : List R) (vs : List V) (items : List D) (Q : It → Hp → Prop), RepL Z H S → (∀ e ∈ es, e ∈ S) → Ents es rs vs → f rs items → (∀ J, Src J items es → Q J H) → r vs H Q
def Stable (ρ : Rh) (σ : SV) (Y : List En) (e : En) : Prop := e ∈ Y ∨ ∃ (i : Nat) (d : D), e.1 = .dat .ln d ∧ ρ[i]? = some (.dat .ln d) ∧ σ[i]? = some e.2
theorem Stable.there {Z : Addr → Prop} {T X Y : List En} {ρ ρ1 : Rh} {σ σ1 : SV} {H H1 : Hp} {e : En} (h : Stable ρ σ Y e) (n : Nx Z (Y ++ T) ρ σ H X ρ1 σ1 H1) : e ∈ ρ1.zip σ1 ++ (Y ++ T) := by
  rcases h with h | ⟨i, d, e1, e2, e3⟩
  · exact List.mem_append_right _ (List.mem_append_left _ h)
  · obtain ⟨d', h1, h2, h3⟩ := n.sta i .ln d e2 (.inr rfl)
    cases h2 rfl
    refine List.mem_append_left _ (List.mem_of_getElem? (i := i) ?_)
    rw [List.getElem?_zip_eq_some]
    exact ⟨by rw [e1]; exact h1, h3.trans e3⟩
theorem Stable.more {ρ : Rh} {σ : SV} {Y Y' : List En} {e : En} (h : Stable ρ σ Y e) (s : ∀ x ∈ Y, x ∈ Y') : Stable ρ σ Y' e := h.imp (s e) id
theorem not_own_fr {d : D} {ov : Option V} {a : Addr} : ¬ own (.dat .fr d, ov) a := fun ⟨_, _, e, h, _⟩ => by cases e; cases h
theorem prep {Z : Addr → Prop} {T : List En} {ρ1 : Rh} {σ : SV} {H : Hp} {ls : List Nat} (hl : ρ1.length = σ.length) : ∀ (as : List Ar) (vs : List V) (rs : List R) (X' : List En), relA as vs σ X' → ress ρ1 as = some rs → (∀ i ∈ locs as, ls.contains i = true) → ∀ Y0 : List En, (∀ x ∈ X', x ∈ Y0) → RepL Z H ((lend ls ρ1).zip σ ++ (Y0 ++ T)) →
    ∃ Y es, (∀ x ∈ Y0, x ∈ Y) ∧ Ents es rs vs ∧ (∀ e ∈ es, Stable (lend ls ρ1) σ Y e) ∧ RepL Z H ((lend ls ρ1).zip σ ++ (Y ++ T)) ∧ ∀ a, OwnL Y a → OwnL Y0 a := by
  intro as
  induction as with
  | nil =>
    intro vs rs X' er e hls Y0 hX r
    cases e
    obtain ⟨rfl, rfl⟩ := er
    exact ⟨Y0, [], fun _ h => h, True.intro, fun e h => (nomatch h), r, fun _ z => z⟩
  | cons a as ih =>
    intro vs rs X' er e hls Y0 hX r
    obtain ⟨v, vr, X1, X2, rfl, rfl, ea, er2⟩ := er
    unfold ress at e
    split at e
    · rename_i r1 rs' e1 e2
      cases e
      -- the head's entry
      have head : ∃ (x : En) (Y1 : List En), (∀ z ∈ Y0, z ∈ Y1) ∧ (∃ m, x = (.dat m r1.2, some v) ∧ (r1.1 = .fr ↔ m = .fr)) ∧ Stable (lend ls ρ1) σ Y1 x ∧ RepL Z H ((lend ls ρ1).zip σ ++ (Y1 ++ T)) ∧ ∀ a, OwnL Y1 a → OwnL Y0 a := by
        cases a with
        | loc i =>
          obtain ⟨es, rfl⟩ := ea
          have e1 : (match ρ1[i]? with
            | some (.dat m d) => some (m, d)
            | _ => none) = some r1 := e1
          split at e1
          · rename_i m d em
            cases e1
            have hc : ls.contains i = true := hls i (List.mem_cons_self)
            have le : (lend ls ρ1)[i]? = some (lent (.dat m d)) := by rw [lend_at, em, Option.map_some, if_pos hc]
            have hz : ((lend ls ρ1).zip σ)[i]? = some (lent (.dat m d), some v) := List.getElem?_zip_eq_some.mpr ⟨le, es⟩
            have dup : (∀ a, ¬ own (lent (.dat m d), some v) a) → lent (.dat m d) = .dat m d → _ := fun no el =>
              (⟨(lent (.dat m d), some v), (lent (.dat m d), some v) :: Y0, fun z h => List.mem_cons_of_mem _ h, ⟨m, by rw [el], Iff.rfl⟩, .inl List.mem_cons_self, by
                have q : RepL Z H ((lent (.dat m d), some v) :: ((lend ls ρ1).zip σ ++ (Y0 ++ T))) := r.push (r.ok _ (List.mem_append_left _ (List.mem_of_getElem? hz))) no
                exact q.perm (List.perm_middle (l₁ := (lend ls ρ1).zip σ)).symm, fun a z => (OwnL.cons.mp z).elim (fun o => (no a o).elim) id⟩ : ∃ (x : En) (Y1 : List En), (∀ z ∈ Y0, z ∈ Y1) ∧ (∃ m', x = (.dat m' d, some v) ∧ (m = .fr ↔ m' = .fr)) ∧ Stable (lend ls ρ1) σ Y1 x ∧ RepL Z H ((lend ls ρ1).zip σ ++ (Y1 ++ T)) ∧ ∀ a, OwnL Y1 a → OwnL Y0 a)
            cases m with
            | sh => exact dup (fun a => not_own_sh) rfl
            | fr => exact dup (fun a => not_own_fr) rfl
            | ow => exact ⟨(.dat .ln d, some v), Y0, fun _ h => h, ⟨.ln, rfl, by constructor <;> intro h <;> cases h⟩, .inr ⟨i, d, rfl, le, es⟩, r, fun _ z => z⟩
            | bo => exact ⟨(.dat .ln d, some v), Y0, fun _ h => h, ⟨.ln, rfl, by constructor <;> intro h <;> cases h⟩, .inr ⟨i, d, rfl, le, es⟩, r, fun _ z => z⟩
            | ln => exact ⟨(.dat .ln d, some v), Y0, fun _ h => h, ⟨.ln, rfl, by constructor <;> intro h <;> cases h⟩, .inr ⟨i, d, rfl, le, es⟩, r, fun _ z => z⟩
          · cases e1
        | tmp m d =>
          have ea : X1 = [(.dat m d, some v)] := ea
          subst ea
          have hin : ((Slot.dat m d, some v) : En) ∈ Y0 := hX _ (List.mem_append_left _ (List.mem_singleton.mpr rfl))
          cases m with
          | sh => cases e1; exact ⟨_, Y0, fun _ h => h, ⟨.sh, rfl, by constructor <;> intro h <;> cases h⟩, .inl hin, r, fun _ z => z⟩
          | ow => cases e1; exact ⟨_, Y0, fun _ h => h, ⟨.ow, rfl, by constructor <;> intro h <;> cases h⟩, .inl hin, r, fun _ z => z⟩
          | _ => cases e1
      obtain ⟨x, Y1, s1, hx, st, r1', ow1⟩ := head
      obtain ⟨Y, es, s2, en, st2, r2, ow2⟩ := ih vr rs' X2 er2 e2 (fun i hi => hls i (by
        cases a with
        | loc j => exact List.mem_cons_of_mem _ hi
        | tmp _ _ => exact hi)) Y1 (fun z hz => s1 z (hX z (List.mem_append_right _ hz))) r1'
      exact ⟨Y, x :: es, fun z h => s2 z (s1 z h), ⟨hx, en⟩, fun e he => by
        rcases List.mem_cons.mp he with rfl | he
        · exact st.more s2
        · exact st2 e he, r2, fun a z => ow1 a (ow2 a z)⟩
    · cases e
def forW (g : WGt) (b : WS) : List D → Rh → Ed → Prop
  | [], ρ, D => D.nx ρ
  | d :: ds, ρ, D => g (.sh, d) ρ (fun ρ1 => b ρ1 { D with nx := fun ρ2 => forW g b ds ρ2 D, ct := fun ρ2 => forW g b ds ρ2 D, bk := D.nx }) D.ex
def homeD (ls : List Nat) (o : Rh) (D : Ed) : Ed where
  nx := fun ρ => D.nx (home ls o ρ)
  rt := fun r ρ => D.rt r (home ls o ρ)
  bk := fun ρ => D.bk (home ls o ρ)
  ct := fun ρ => D.ct (home ls o ρ)
  ex := fun x ρ => D.ex x (home ls o ρ)
def sFor (f : FI) (wa : WA) (g : WGt) (b : WS) : WS := fun ρ D => wa ρ (fun as ρ1 => match ress ρ1 as with
  | some rs => ∃ items, f rs items ∧ forW g b items (lend (locs as) ρ1) (homeD (locs as) ρ1 D)
  | none => False) D.ex
theorem forW.mono {g : WGt} {b : WS} (mg : MonoT g) (mb : MonoS b) : ∀ (ds : List D) (ρ : Rh) (D D' : Ed), D.Le D' → forW g b ds ρ D → forW g b ds ρ D'
  | [], ρ, D, D', h, q => h.nx _ q
  | d :: ds, ρ, D, D', h, q => by
    unfold forW at q ⊢
    refine mg _ _ _ _ _ _ (fun ρ1 q => mb ρ1 _ _ ?_ q) h.ex q
    exact ⟨fun ρ2 z => forW.mono mg mb ds ρ2 D D' h z, h.rt, h.nx, fun ρ2 z => forW.mono mg mb ds ρ2 D D' h z, h.ex⟩
theorem homeD.le {ls : List Nat} {o : Rh} {D D' : Ed} (h : D.Le D') : (homeD ls o D).Le (homeD ls o D') := ⟨fun _ z => h.nx _ z, fun _ _ z => h.rt _ _ z, fun _ z => h.bk _ z, fun _ z => h.ct _ z, fun _ _ z => h.ex _ _ z⟩
theorem sFor.mono {f : FI} {wa : WA} {g : WGt} {b : WS} (ma : MonoG wa) (mg : MonoT g) (mb : MonoS b) : MonoS (sFor f wa g b) := fun ρ D D' h q => ma _ _ _ _ _ (fun as ρ1 z => by
  split at z
  · obtain ⟨items, e, z⟩ := z
    exact ⟨items, e, forW.mono mg mb _ _ _ _ (homeD.le h) z⟩
  · exact z.elim) h.ex q
theorem Nx.lessY {Z : Addr → Prop} {T X Y : List En} {ρ ρ1 : Rh} {σ σ1 : SV} {H H1 : Hp} (n : Nx Z (Y ++ T) ρ σ H X ρ1 σ1 H1) : Nx Z T ρ σ H X ρ1 σ1 H1 :=
  ⟨n.len, n.lens, n.rep.sub (((List.sublist_append_right Y T).append_left (ρ1.zip σ1)).append_left X), n.keep, n.grow, n.sta⟩
theorem Nx.same {Z : Addr → Prop} {T X : List En} {ρ ρ1 : Rh} {σ σ1 : SV} {H H1 H2 : Hp} (n : Nx Z T ρ σ H X ρ1 σ1 H1) (s : Same H1 H2) : Nx Z T ρ σ H X ρ1 σ1 H2 :=
  ⟨n.len, n.lens, n.rep.same s, fun b o q nb => s b o (n.keep b o q nb), n.grow, n.sta⟩
section
variable {Vs : Nat → Bool} {cl : Str → Value} {W : WX}
theorem forI {r : RI} {f : FI} {wa : WA} {g : WGt} {b : WS} (ma : MonoG wa) (mg : MonoT g) (mb : MonoS b) (ok : IOk r f) :
    ∀ De σ H, tSS cl W (sFor f wa g b) De σ H → tFor (fun σ H Q => tA cl W wa σ H fun vs H1 => r vs H1 Q) (tGt Vs cl W g) (tSS cl W b) De σ H := fun De σ H q => by
  obtain ⟨Z, T, ρ, hl, rp, q⟩ := q
  refine ⟨Z, T, ρ, hl, rp, ma _ _ _ _ _ (fun as ρ1 q vs X1 H1 er n1 => ?_) (fun x ρ1 q H1 n => q σ H1 n) q⟩
  split at q
  · rename_i rs ers
    obtain ⟨items, eit, q⟩ := q
    have r0 : RepL Z H1 ((lend (locs as) ρ1).zip σ ++ (X1 ++ T)) := by
      have r1 : RepL Z H1 (ρ1.zip σ ++ (X1 ++ T)) := n1.rep.perm (by
        rw [← List.append_assoc, ← List.append_assoc]
        exact (List.perm_append_comm (l₁ := X1) (l₂ := ρ1.zip σ)).append_right T)
      exact r1.label (lend_eqR _ _)
    obtain ⟨Y, es, sY, en, st, rY, owY⟩ := prep n1.len as vs rs X1 er ers (fun i hi => List.contains_iff_mem.mpr hi) X1 (fun _ h => h) r0
    have n0 : Nx Z T ρ σ H [] ρ1 σ H1 := Nx.let (X := X1) (Y := []) (by rw [List.append_nil]; exact n1)
    have hlL : (lend (locs as) ρ1).length = σ.length := by rw [lend_len]; exact n1.len
    have fin : ∀ {Xr : List En} {ρ' : Rh} {σ' : SV} {H' : Hp}, Nx Z (Y ++ T) (lend (locs as) ρ1) σ H1 Xr ρ' σ' H' → Nx Z T ρ σ H Xr (home (locs as) ρ1 ρ') σ' H' := fun nL => n0.trans (Nx.lessY (Nx.home n1.len nL))
    refine ok Z H1 _ es rs vs items _ rY (fun e he => (st e he).there (Nx.refl hlL rY)) en eit fun J src => ?_
    generalize hD : homeD (locs as) ρ1 _ = D' at q
    refine ⟨fun i m σ' H' => m = items.length - i ∧ i ≤ items.length ∧ ∃ ρ', Nx Z (Y ++ T) (lend (locs as) ρ1) σ H1 [] ρ' σ' H' ∧ forW g b (items.drop i) ρ' D', ⟨_, rfl, Nat.zero_le _, _, Nx.refl hlL rY, q⟩, ?_⟩
    rintro i m σ' H' ⟨rfl, hi, ρ', nL, qf⟩
    have hS : ∀ e ∈ es, e ∈ ρ'.zip σ' ++ (Y ++ T) := fun e he => (st e he).there nL
    by_cases hlt : i < items.length
    · right
      have ei : items[i]? = some items[i] := by simp [hlt]
      obtain ⟨go, yl⟩ := src.go Z H' _ nL.rep hS i _ ei
      rw [List.drop_eq_getElem_cons hlt] at qf
      unfold forW at qf
      refine ⟨go, fun σ3 H3 => ∃ ρ3, Nx Z (Y ++ T) (lend (locs as) ρ1) σ H1 [] ρ3 σ3 H3 ∧ forW g b (items.drop (i + 1)) ρ3 D', fun σ3 H3 ⟨ρ3, n3, q3⟩ => ⟨_, by omega, rfl, hlt, ρ3, n3, q3⟩, fun x H2 hy => ?_⟩
      obtain ⟨sm, dv⟩ := yl x H2 hy
      have no : ∀ a, ¬ own (Slot.dat .sh items[i], some x) a := fun a => not_own_sh
      have n2 := nL.same sm
      refine ⟨Z, Y ++ T, ρ', (.sh, items[i]), nL.len, (show RepL Z H2 (ρ'.zip σ' ++ (Y ++ T)) from n2.rep).push (fun m d' e => by cases e; exact ⟨x, rfl, dv⟩) no, mg _ _ _ _ _ _ (fun ρ2 q2 σ2 H3 ng => ?_) (fun xx ρ2 q2 σ2 H3 ng => ?_) qf⟩
      · have n3 := n2.trans (Nx.refl_tgt no ng)
        refine ⟨Z, Y ++ T, ρ2, n3.len, n3.rep, mb ρ2 _ _ ?_ q2⟩
        subst hD
        exact ⟨fun ρ3 z σ3 H4 n4 => ⟨ρ3, n3.trans n4, z⟩, fun rr ρ3 z v σ3 H4 n4 => z v σ3 H4 (fin (n3.trans n4)), fun ρ3 z σ3 H4 n4 => z σ3 H4 (fin (n3.trans n4)), fun ρ3 z σ3 H4 n4 => ⟨ρ3, n3.trans n4, z⟩, fun xx ρ3 z σ3 H4 n4 => z σ3 H4 (fin (n3.trans n4))⟩
      · subst hD
        exact q2 σ2 H3 (fin (n2.trans (Nx.refl_tgt no ng)))
    · left
      refine ⟨src.stop Z H' _ nL.rep hS i (by omega), ?_⟩
      rw [List.drop_eq_nil_of_le (by omega)] at qf
      subst hD
      exact qf σ' H' (fin nL)
  · exact q.elim
end
end G
end
section
set_option Elab.async false
set_option linter.all false
set_option maxRecDepth 100000
namespace G
open PySem PySem.Spec L2
theorem ents1 {es : List En} {r : R} {vs : List V} (h : Ents es [r] vs) : ∃ m v, es = [(.dat m r.2, some v)] ∧ vs = [v] ∧ (r.1 = .fr ↔ m = .fr) := by
  cases es with
  | nil => exact h.elim
  | cons e es =>
    cases vs with
    | nil => exact h.elim
    | cons v vs =>
      obtain ⟨⟨m, rfl, hm⟩, h2⟩ := h
      cases es with
      | nil => cases vs with
        | nil => exact ⟨m, v, rfl, rfl, hm⟩
        | cons => exact h2.elim
      | cons => cases vs <;> exact h2.elim
theorem ents2 {es : List En} {r s : R} {vs : List V} (h : Ents es [r, s] vs) : ∃ m v n w, es = [(.dat m r.2, some v), (.dat n s.2, some w)] ∧ vs = [v, w] := by
  cases es with
  | nil => exact h.elim
  | cons e es =>
    cases vs with
    | nil => exact h.elim
    | cons v vs =>
      obtain ⟨⟨m, rfl, hm⟩, h2⟩ := h
      obtain ⟨n, w, rfl, rfl, _⟩ := ents1 h2
      exact ⟨m, v, n, w, rfl, rfl⟩
theorem ent_vw {Z : Addr → Prop} {H : Hp} {S : List En} {m : Mo} {d : D} {v : V} (r : RepL Z H S) (h : ((Slot.dat m d, some v) : En) ∈ S) : Vw H (fun a => Z a ∨ OwnL S a) (m, d) v := by
  obtain ⟨w, e, hv⟩ := r.ok _ h m d rfl
  cases e
  exact hv.cv
def signs (x : Str) : List D := x.cps.toList.map fun c => .str ⟨#[c]⟩
def fSeq : FI := fun rs items => match rs with
  | [(_, .lst ds)] => items = ds
  | [(_, .tup ds)] => items = ds
  | [(_, .str x)] => items = signs x
  | _ => False
def rSeqI (K : PySem.W.Frag) : RI := fun vs H Q => ∃ v, vs = [v] ∧ ((∃ a xs, v = .ref a ∧ SqL K H a xs ∧ Q (Itl K a) H) ∨ (∃ a xs, v = .ref a ∧ SqT K H a xs ∧ Q (Itt K a) H) ∨ (∃ x, v = .str x ∧ Q (Its x) H))
theorem src_lst {K : PySem.W.Frag} {m : Mo} {ds : List D} {a : Addr} : Src (Itl K a) ds [(.dat m (.lst ds), some (.ref a))] where
  go := fun Z H S r h i d e => by
    obtain ⟨p, xs, ep, hp, dv⟩ := (ent_vw r (h _ (List.mem_singleton.mpr rfl))).lst
    cases ep
    obtain ⟨x, hx, dx⟩ := dv.get e
    refine ⟨⟨xs, x, sqL_of hp, hx⟩, fun y H' ⟨e1, e2⟩ => ?_⟩
    subst e1
    have := e2 xs (sqL_of hp)
    rw [hx] at this
    cases this
    exact ⟨.refl _, dx⟩
  stop := fun Z H S r h i hi => by
    obtain ⟨p, xs, ep, hp, dv⟩ := (ent_vw r (h _ (List.mem_singleton.mpr rfl))).lst
    cases ep
    exact ⟨xs, sqL_of hp, by rw [dv.len]; exact hi⟩
theorem src_tup {K : PySem.W.Frag} {m : Mo} {ds : List D} {a : Addr} : Src (Itt K a) ds [(.dat m (.tup ds), some (.ref a))] where
  go := fun Z H S r h i d e => by
    obtain ⟨p, xs, ep, hp, dv, _⟩ := (ent_vw r (h _ (List.mem_singleton.mpr rfl))).tup
    cases ep
    obtain ⟨x, hx, dx⟩ := dv.get e
    refine ⟨⟨xs, x, SqT.of hp, hx⟩, fun y H' ⟨e1, e2⟩ => ?_⟩
    subst e1
    have := e2 xs (SqT.of hp)
    rw [hx] at this
    cases this
    exact ⟨.refl _, dx⟩
  stop := fun Z H S r h i hi => by
    obtain ⟨p, xs, ep, hp, dv, _⟩ := (ent_vw r (h _ (List.mem_singleton.mpr rfl))).tup
    cases ep
    exact ⟨xs, SqT.of hp, by rw [dv.len]; exact hi⟩
theorem src_str {m : Mo} {x : Str} {v : V} : Src (Its x) (signs x) [(.dat m (.str x), some v)] where
  go := fun Z H S r h i d e => by
    unfold signs at e
    rw [List.getElem?_map] at e
    cases q : x.cps.toList[i]? with
    | none => rw [q] at e; cases e
    | some c =>
      rw [q] at e
      cases e
      have q' : x.cps[i]? = some c := by simpa using q
      refine ⟨by
        have := (List.getElem?_eq_some_iff.mp q).1
        show i < x.cps.size
        simpa using this, fun y H' ⟨e1, c', e2, e3⟩ => ?_⟩
      subst e1 e3
      rw [q'] at e2
      cases e2
      exact ⟨.refl _, dv_str⟩
  stop := fun Z H S r h i hi => by
    unfold signs at hi
    rw [List.length_map, Array.length_toList] at hi
    exact hi
theorem fSeq.ok {K : PySem.W.Frag} : IOk (rSeqI K) fSeq := by
  intro Z H S es rs vs items Q r h en e k
  unfold fSeq at e
  split at e
  · cases e
    obtain ⟨m, v, rfl, rfl, _⟩ := ents1 en
    obtain ⟨p, xs, rfl, hp, dv⟩ := (ent_vw r (h _ (List.mem_singleton.mpr rfl))).lst
    exact ⟨_, rfl, .inl ⟨p, xs, rfl, sqL_of hp, k _ src_lst⟩⟩
  · cases e
    obtain ⟨m, v, rfl, rfl, _⟩ := ents1 en
    obtain ⟨p, xs, rfl, hp, dv, _⟩ := (ent_vw r (h _ (List.mem_singleton.mpr rfl))).tup
    exact ⟨_, rfl, .inr (.inl ⟨p, xs, rfl, SqT.of hp, k _ src_tup⟩)⟩
  · cases e
    obtain ⟨m, v, rfl, rfl, _⟩ := ents1 en
    cases (ent_vw r (h _ (List.mem_singleton.mpr rfl))).str
    exact ⟨_, rfl, .inr (.inr ⟨_, rfl, k _ src_str⟩)⟩
  · cases e
theorem pi_seqA {X : Cx} {tg l : Expr} {tl : TE} (hl : PE X l tl) : PI X tg l (fun σ H Q => tl σ H fun v H1 => rSeqI X.K [v] H1 Q) := by
  refine ⟨fun pins s σ H R I h => ?_⟩
  refine thn (hl.run pins s σ H _ I h) fun v s1 ⟨x, H1, I1, r1, q1⟩ => ?_
  obtain ⟨y, ey, q⟩ := q1
  cases ey
  rcases q with ⟨a, xs, rfl, hq, q⟩ | ⟨a, xs, rfl, hq, q⟩ | ⟨z, rfl, q⟩
  · cases r1
    obtain ⟨its, rv, p, hz⟩ := I1.list hq
    exact wpAny_pyIter_list p.isList (pi_one (tk := s1.toks) I1 _ (turn_list a _) ⟨_, Heap.get?_push_size _ rfl, rfl, rfl⟩ q)
  · cases r1
    obtain ⟨its, rv, p, hz⟩ := I1.tuple hq
    exact wpAny_pyIter_tuple (show s1.heap.IsTuple a its.toArray from p) (pi_one (tk := s1.toks) I1 _ (turn_tuple a _) ⟨_, Heap.get?_push_size _ rfl, rfl, rfl⟩ q)
  · obtain ⟨t, rfl⟩ := r1
    cases ha : z.cps.all (· < 128)
    · exact wpAny_pyIter_wide ha (pi_one (tk := s1.toks) I1 _ (turn_str _ z t "str_iterator" (.inr rfl)) ⟨_, Heap.get?_push_size _ rfl, rfl, rfl⟩ q)
    · exact wpAny_pyIter_ascii ha (pi_one (tk := s1.toks) I1 _ (turn_str _ z t "str_ascii_iterator" (.inl rfl)) ⟨_, Heap.get?_push_size _ rfl, rfl, rfl⟩ q)
theorem pi_imp {X : Cx} {tg e : Expr} {t t' : TI} (h : PI X tg e t) (i : ∀ σ H Q, t' σ H Q → t σ H Q) : PI X tg e t' := ⟨fun pins s σ H R I q => h.run pins s σ H R I (i σ H R q)⟩
theorem oneI {cl : Str → Value} {W : WX} {o : WO} (mo : MonoG o) {Q : List V → Hp → Prop} : ∀ σ H, tA cl W (aCons o aNil) σ H Q → tO cl W o σ H (fun v H1 => Q [v] H1) := fun σ H q => by
  obtain ⟨Z, T, ρ, hl, rp, q⟩ := q
  refine ⟨Z, T, ρ, hl, rp, mo _ _ _ _ _ (fun a ρ1 q v X1 H1 er n => ?_) (fun _ _ z => z) q⟩
  exact q [v] X1 H1 ⟨v, [], X1, [], rfl, (List.append_nil _).symm, er, rfl, rfl⟩ n
theorem pi_seqO {X : Cx} {cl : Str → Value} {W : WX} {tg l : Expr} {o : WO} (mo : MonoG o) (hl : PE X l (tO cl W o)) : PI X tg l (fun σ H Q => tA cl W (aCons o aNil) σ H fun vs H1 => rSeqI X.K vs H1 Q) := pi_imp (pi_seqA hl) fun σ H Q q => oneI mo σ H q
def rng (lo : Int) (n : Nat) : List D := (List.range n).map fun k => .int (lo + (k : Nat))
def fRange1 : FI := fun rs items => match rs with
  | [(_, .int j)] => (-(2 ^ 62) ≤ j ∧ j < 2 ^ 62) ∧ items = rng 0 j.toNat
  | _ => False
def fRange2 : FI := fun rs items => match rs with
  | [(_, .int i), (_, .int j)] => ((-(2 ^ 62) ≤ i ∧ i < 2 ^ 62) ∧ -(2 ^ 62) ≤ j ∧ j < 2 ^ 62) ∧ items = rng i (j - i).toNat
  | _ => False
theorem rng_len {lo : Int} {n : Nat} : (rng lo n).length = n := by simp [rng]
theorem src_rng {lo : Int} {n : Nat} {es : List En} : Src (Itr lo n) (rng lo n) es where
  go := fun Z H S r h i d e => by
    have hi : i < n := by have := (List.getElem?_eq_some_iff.mp e).1; rw [rng_len] at this; exact this
    refine ⟨hi, fun x H' ⟨e1, e2⟩ => ?_⟩
    subst e1 e2
    unfold rng at e
    rw [List.getElem?_map, List.getElem?_range hi] at e
    cases e
    exact ⟨.refl _, dv_int⟩
  stop := fun Z H S r h i hi => by rw [rng_len] at hi; exact hi
theorem fRange1.ok : IOk (fun vs H Q => ∃ j : Int, vs = [.int j] ∧ -(2 ^ 62) ≤ j ∧ j < 2 ^ 62 ∧ Q (Itr 0 j.toNat) H) fRange1 := by
  intro Z H S es rs vs items Q r h en e k
  unfold fRange1 at e
  split at e
  · obtain ⟨c, rfl⟩ := e
    obtain ⟨m, v, rfl, rfl, _⟩ := ents1 en
    cases (ent_vw r (h _ (List.mem_singleton.mpr rfl))).int
    exact ⟨_, rfl, c.1, c.2, k _ src_rng⟩
  · cases e
theorem fRange2.ok : IOk (fun vs H Q => ∃ i j : Int, vs = [.int i, .int j] ∧ (-(2 ^ 62) ≤ i ∧ i < 2 ^ 62 ∧ -(2 ^ 62) ≤ j ∧ j < 2 ^ 62) ∧ Q (Itr i (j - i).toNat) H) fRange2 := by
  intro Z H S es rs vs items Q r h en e k
  unfold fRange2 at e
  split at e
  · obtain ⟨c, rfl⟩ := e
    obtain ⟨m, v, n, w, rfl, rfl⟩ := ents2 en
    cases (ent_vw r (h _ List.mem_cons_self)).int
    cases (ent_vw r (h _ (List.mem_cons_of_mem _ List.mem_cons_self))).int
    exact ⟨_, _, rfl, ⟨c.1.1, c.1.2, c.2.1, c.2.2⟩, k _ src_rng⟩
  · cases e
def fZip : FI := fun rs items => match rs with
  | [(_, .lst xs), (_, .lst ys)] => items = List.zipWith (fun a b => .tup [a, b]) xs ys
  | [(_, .tup xs), (_, .tup ys)] => items = List.zipWith (fun a b => .tup [a, b]) xs ys
  | _ => False
def rZipI (K : PySem.W.Frag) : RI := fun vs H Q => ∃ a b xs ys, vs = [.ref a, .ref b] ∧ ((SqL K H a xs ∧ SqL K H b ys ∧ Q (Itz K a b) H) ∨ (SqT K H a xs ∧ SqT K H b ys ∧ Q (RZ.ItzT K a b) H))
theorem pair_new {Z : Addr → Prop} {H : Hp} {S : List En} {x y : V} {d e : D} {p : Addr} (r : RepL Z H S) (np : H p = none) (dx : DV H (fun a => Z a ∨ OwnL S a) d x) (dy : DV H (fun a => Z a ∨ OwnL S a) e y) : Same H (upd H p (.tup [x, y])) ∧ DV (upd H p (.tup [x, y])) (fun a => Z a ∨ OwnL S a) (.tup [d, e]) (.ref p) := by
  have o := Out.tup (O := fun a => Z a ∨ OwnL S a) np (fresh_off r np) (DVs.cons dx (DVs.cons dy DVs.nil))
  obtain ⟨s, o⟩ := o
  rcases o with ⟨_, o⟩ | ⟨z, _⟩
  · exact ⟨s, o⟩
  · cases z
theorem zipWith_get {xs ys : List D} {i : Nat} {d : D} (e : (List.zipWith (fun a b => D.tup [a, b]) xs ys)[i]? = some d) : ∃ a b, xs[i]? = some a ∧ ys[i]? = some b ∧ d = .tup [a, b] := by
  rw [List.getElem?_zipWith] at e
  split at e
  · rename_i a b h1 h2; cases e; exact ⟨a, b, h1, h2, rfl⟩
  · cases e
theorem src_zip {K : PySem.W.Frag} {m n : Mo} {xs ys : List D} {a b : Addr} : Src (Itz K a b) (List.zipWith (fun a b => .tup [a, b]) xs ys) [(.dat m (.lst xs), some (.ref a)), (.dat n (.lst ys), some (.ref b))] where
  go := fun Z H S r h i d e => by
    obtain ⟨p, us, ep, hp, dv⟩ := (ent_vw r (h _ List.mem_cons_self)).lst
    cases ep
    obtain ⟨p2, ws, ep2, hp2, dv2⟩ := (ent_vw r (h _ (List.mem_cons_of_mem _ List.mem_cons_self))).lst
    cases ep2
    obtain ⟨d1, d2, e1, e2, rfl⟩ := zipWith_get e
    obtain ⟨x, hx, dx⟩ := dv.get e1
    obtain ⟨y, hy, dy⟩ := dv2.get e2
    refine ⟨⟨us, ws, x, y, sqL_of hp, sqL_of hp2, hx, hy⟩, fun v H' ⟨T, x', y', e1, nT, e2, f1, f2⟩ => ?_⟩
    subst e1 e2
    have g1 := f1 us (sqL_of hp); rw [hx] at g1; cases g1
    have g2 := f2 ws (sqL_of hp2); rw [hy] at g2; cases g2
    exact pair_new r nT dx dy
  stop := fun Z H S r h i hi => by
    obtain ⟨p, us, ep, hp, dv⟩ := (ent_vw r (h _ List.mem_cons_self)).lst
    cases ep
    obtain ⟨p2, ws, ep2, hp2, dv2⟩ := (ent_vw r (h _ (List.mem_cons_of_mem _ List.mem_cons_self))).lst
    cases ep2
    rw [List.length_zipWith] at hi
    exact ⟨us, ws, sqL_of hp, sqL_of hp2, by rw [dv.len, dv2.len]; omega⟩
theorem src_zipT {K : PySem.W.Frag} {m n : Mo} {xs ys : List D} {a b : Addr} : Src (RZ.ItzT K a b) (List.zipWith (fun a b => .tup [a, b]) xs ys) [(.dat m (.tup xs), some (.ref a)), (.dat n (.tup ys), some (.ref b))] where
  go := fun Z H S r h i d e => by
    obtain ⟨p, us, ep, hp, dv, _⟩ := (ent_vw r (h _ List.mem_cons_self)).tup
    cases ep
    obtain ⟨p2, ws, ep2, hp2, dv2, _⟩ := (ent_vw r (h _ (List.mem_cons_of_mem _ List.mem_cons_self))).tup
    cases ep2
    obtain ⟨d1, d2, e1, e2, rfl⟩ := zipWith_get e
    obtain ⟨x, hx, dx⟩ := dv.get e1
    obtain ⟨y, hy, dy⟩ := dv2.get e2
    refine ⟨⟨us, ws, x, y, SqT.of hp, SqT.of hp2, hx, hy⟩, fun v H' ⟨T, x', y', e1, nT, e2, f1, f2⟩ => ?_⟩
    subst e1 e2
    have g1 := f1 us (SqT.of hp); rw [hx] at g1; cases g1
    have g2 := f2 ws (SqT.of hp2); rw [hy] at g2; cases g2
    exact pair_new r nT dx dy
  stop := fun Z H S r h i hi => by
    obtain ⟨p, us, ep, hp, dv, _⟩ := (ent_vw r (h _ List.mem_cons_self)).tup
    cases ep
    obtain ⟨p2, ws, ep2, hp2, dv2, _⟩ := (ent_vw r (h _ (List.mem_cons_of_mem _ List.mem_cons_self))).tup
    cases ep2
    rw [List.length_zipWith] at hi
    exact ⟨us, ws, SqT.of hp, SqT.of hp2, by rw [dv.len, dv2.len]; omega⟩
theorem fZip.ok {K : PySem.W.Frag} : IOk (rZipI K) fZip := by
  intro Z H S es rs vs items Q r h en e k
  unfold fZip at e
  split at e
  · cases e
    obtain ⟨m, v, n, w, rfl, rfl⟩ := ents2 en
    obtain ⟨p, us, rfl, hp, dv⟩ := (ent_vw r (h _ List.mem_cons_self)).lst
    obtain ⟨p2, ws, rfl, hp2, dv2⟩ := (ent_vw r (h _ (List.mem_cons_of_mem _ List.mem_cons_self))).lst
    exact ⟨p, p2, us, ws, rfl, .inl ⟨sqL_of hp, sqL_of hp2, k _ src_zip⟩⟩
  · cases e
    obtain ⟨m, v, n, w, rfl, rfl⟩ := ents2 en
    obtain ⟨p, us, rfl, hp, dv, _⟩ := (ent_vw r (h _ List.mem_cons_self)).tup
    obtain ⟨p2, ws, rfl, hp2, dv2, _⟩ := (ent_vw r (h _ (List.mem_cons_of_mem _ List.mem_cons_self))).tup
    exact ⟨p, p2, us, ws, rfl, .inr ⟨SqT.of hp, SqT.of hp2, k _ src_zipT⟩⟩
  · cases e
def fRev : FI := fun rs items => match rs with
  | [(_, .lst xs)] => items = xs.reverse
  | [(_, .tup xs)] => items = xs.reverse
  | _ => False
def rRevI (K : PySem.W.Frag) : RI := fun vs H Q => ∃ v, vs = [v] ∧ ∃ (a : Addr) (xs : List V), v = .ref a ∧ ((SqL K H a xs ∧ Q (Itv K a xs.length) H) ∨ (SqT K H a xs ∧ Q (RT.ItvT K a xs.length) H))
theorem src_rev {K : PySem.W.Frag} {m : Mo} {ds : List D} {a : Addr} : Src (Itv K a ds.length) ds.reverse [(.dat m (.lst ds), some (.ref a))] where
  go := fun Z H S r h i d e => by
    obtain ⟨p, xs, ep, hp, dv⟩ := (ent_vw r (h _ (List.mem_singleton.mpr rfl))).lst
    cases ep
    have hi : i < ds.length := by have := (List.getElem?_eq_some_iff.mp e).1; rw [List.length_reverse] at this; exact this
    rw [List.getElem?_reverse hi] at e
    obtain ⟨x, hx, dx⟩ := dv.get e
    refine ⟨⟨hi, xs, x, sqL_of hp, hx⟩, fun y H' ⟨e1, e2⟩ => ?_⟩
    subst e1
    have := e2 xs (sqL_of hp)
    rw [hx] at this
    cases this
    exact ⟨.refl _, dx⟩
  stop := fun Z H S r h i hi => by rw [List.length_reverse] at hi; exact hi
theorem src_revT {K : PySem.W.Frag} {m : Mo} {ds : List D} {a : Addr} : Src (RT.ItvT K a ds.length) ds.reverse [(.dat m (.tup ds), some (.ref a))] where
  go := fun Z H S r h i d e => by
    obtain ⟨p, xs, ep, hp, dv, _⟩ := (ent_vw r (h _ (List.mem_singleton.mpr rfl))).tup
    cases ep
    have hi : i < ds.length := by have := (List.getElem?_eq_some_iff.mp e).1; rw [List.length_reverse] at this; exact this
    rw [List.getElem?_reverse hi] at e
    obtain ⟨x, hx, dx⟩ := dv.get e
    refine ⟨⟨hi, xs, x, SqT.of hp, hx⟩, fun y H' ⟨e1, e2⟩ => ?_⟩
    subst e1
    have := e2 xs (SqT.of hp)
    rw [hx] at this
    cases this
    exact ⟨.refl _, dx⟩
  stop := fun Z H S r h i hi => by rw [List.length_reverse] at hi; exact hi
theorem fRev.ok {K : PySem.W.Frag} : IOk (rRevI K) fRev := by
  intro Z H S es rs vs items Q r h en e k
  unfold fRev at e
  split at e
  · cases e
    obtain ⟨m, v, rfl, rfl, _⟩ := ents1 en
    obtain ⟨p, xs, rfl, hp, dv⟩ := (ent_vw r (h _ (List.mem_singleton.mpr rfl))).lst
    exact ⟨_, rfl, p, xs, rfl, .inl ⟨sqL_of hp, by rw [dv.len]; exact k _ src_rev⟩⟩
  · cases e
    obtain ⟨m, v, rfl, rfl, _⟩ := ents1 en
    obtain ⟨p, xs, rfl, hp, dv, _⟩ := (ent_vw r (h _ (List.mem_singleton.mpr rfl))).tup
    exact ⟨_, rfl, p, xs, rfl, .inr ⟨SqT.of hp, by rw [dv.len]; exact k _ src_revT⟩⟩
  · cases e
end G
end
section
set_option Elab.async false
set_option linter.all false
set_option maxRecDepth 100000
namespace PySem
open Sem (wp)
set_option maxHeartbeats 1000000 in
theorem meets_enumerate_newV {v : Value} {o : Obj} {H : Heap → Prop} (B : Begins v o H) :
    Meets (Builtin.«enumerate.__new__» ⟨[.type "enumerate", v], []⟩) (fun _ R s => H s.heap ∧
      R (.ok (.ret (.ref (s.heap.push o).objs.size))) { s with heap := (s.heap.push o).push { cls := .type "enumerate", data := .fields #[.none, .bool false, .ref s.heap.objs.size, rawInt 0, .none, .none] } }) :=
  .of_wp fun prog w A R s h => by
    obtain ⟨hp, g, d, tk, os⟩ := s; obtain ⟨h1, h⟩ := h
    have hsub := sub_enumerate
    have q1 : ∀ {A' : Around} {E : Value → Shared → Prop} {Q : Value → Shared → Prop}, Q (.ref hp.objs.size) ⟨hp.push o, g, d, tk, os⟩ → wpAny (model prog w) A' (pyIter v) Q E ⟨hp, g, d, tk, os⟩ :=
      fun q => B.iter prog w _ _ ⟨hp, g, d, tk, os⟩ _ h1 q
    wp_walk using q1
    refine wpAny_stack_any fun st => wpAny_pure ?_
    split
    · rename_i c _ _ _ _ _
      cases (c == Value.type "enumerate")
      · wp_walk using q1
        exact ⟨_, rfl, h⟩
      · wp_walk using q1
        exact ⟨_, rfl, h⟩
    · wp_walk using q1
      exact ⟨_, rfl, h⟩
theorem enum_beginsV {prog : Program} {w : World} {A : Around} {E : Value → Shared → Prop} {s : Shared} {v : Value} {o : Obj} {H : Heap → Prop} {Q : Value → Shared → Prop} (B : Begins v o H) (h1 : H s.heap)
    (h : ∀ h', IsEnum h' (s.heap.objs.size + 1) s.heap.objs.size 0 .none → h'.get? s.heap.objs.size = some o → h'.objs.size = s.heap.objs.size + 2 →
      (∀ b o, s.heap.get? b = some o → h'.get? b = some o) → Q (.ref (s.heap.objs.size + 1)) { s with heap := h' }) :
    wpAny (model prog w) A (call (.type "enumerate") [v]) Q E s := by
  refine callType_new F.called_enumerate (by decide) (F.typeCall_enumerate_1 _) (F.newCall_enumerate_1 _) (fun obj => F.args_object_init_2 obj _) F.entry_enumerate_new
    (meets_enumerate_newV B) ⟨h1, ?_⟩
  have hz : (s.heap.push o).objs.size = s.heap.objs.size + 1 := Heap.size_push ..
  show _ ∧ _
  rw [hz]
  have he : IsEnum ((s.heap.push o).push { cls := .type "enumerate", data := .fields #[.none, .bool false, .ref s.heap.objs.size, rawInt 0, .none, .none] }) (s.heap.objs.size + 1) s.heap.objs.size 0 .none := by
    have := Heap.get?_push_size (s.heap.push o) (o := { cls := .type "enumerate", data := .fields #[.none, .bool false, .ref s.heap.objs.size, rawInt 0, .none, .none] }) rfl
    rw [hz] at this; exact this
  refine ⟨⟨_, he, rfl⟩, h _ he (Heap.get?_push_of_some _ (Heap.get?_push_size _ B.free)) (by rw [Heap.size_push, hz]) fun b o x => Heap.get?_push_of_some _ (Heap.get?_push_of_some _ x)⟩
end PySem
namespace G
open PySem PySem.Spec PyProof.Rows L2
def IteT (K : PySem.W.Frag) (a : Addr) : It :=
  ⟨fun i H => ∃ (xs : List V) (x : V), SqT K H a xs ∧ xs[i]? = some x, fun i H v H' => ∃ T x, v = .ref T ∧ H T = none ∧ H' = upd H T (.tup [.int (i : Nat), x]) ∧ ∀ xs, SqT K H a xs → xs[i]? = some x, fun i H => ∃ xs : List V, SqT K H a xs ∧ xs.length ≤ i⟩
theorem turn_enumT {P : Program} {w : World} {K : PySem.W.Frag} {elts : List Expr} {kk : Nat} {tpos : Pos} (a e it : Addr) (hai : a ≠ it) (hae : a ≠ e) :
    Turn P w K (.Tuple elts kk tpos) (IteT K a) [e, it] e (fun i h => (∃ old, IsEnum h e it ((i : Nat) : Int) old) ∧ h.IsTupleIter it a i ∧ e ≠ it) where
  mem := by simp
  obj := fun i h st b hb => by
    obtain ⟨⟨old, he⟩, ⟨o, ho, hc, hd⟩, _⟩ := st
    have e' : b = e ∨ b = it := by simpa using hb
    rcases e' with z | z
    · rw [z]; exact ⟨_, he, fun v q => nomatch q⟩
    · rw [z]; exact ⟨o, ho, fun v q => by rw [hd] at q; cases q⟩
  keep := fun i h h' st k => let ⟨⟨old, he⟩, hi, hne⟩ := st; ⟨⟨old, k e (by simp) _ he⟩, hi.at fun o q => k it (by simp) o q, hne⟩
  item := by
    intro X hP hw hK hc i pins s σ H E I hf st hg
    subst hP hw hK
    obtain ⟨⟨old, he⟩, hit, hne⟩ := st
    obtain ⟨xs, x, hq, hx⟩ := hg
    obtain ⟨its, rv, p, hz⟩ := I.tuple hq
    obtain ⟨u, hu, ru⟩ := rv.get hx
    have hel : e < s.heap.objs.size := Heap.lt_size he
    have hil : it < s.heap.objs.size := by obtain ⟨_, q, _⟩ := hit; exact Heap.lt_size q
    have hin : i < its.toArray.size := by
      have := (List.getElem?_eq_some_iff.mp hu).1
      simpa using this
    refine wpAny_pyNext_enum_itemC (Draws.tuple (A := X.A.in1) (by exact I.ok.hd hc) it a hai its.toArray) he ⟨hit, p⟩ hin hne (by simp; exact ⟨hne, hae.symm⟩) fun x' h' tk hx' ho hit' hT hsz hk => ?_
    have hux : x' = u := by
      have h1 : its.toArray[i]? = some x' := hx'
      rw [show its.toArray[i]? = its[i]? by simp, hu] at h1
      exact (Option.some.inj h1).symm
    subst hux
    refine ⟨_, rfl, wpAny_letOwnedTupleGo_enum (s := { s with heap := h', toks := tk + 1 }) ho fun h'' he' sb => ?_⟩
    have hT2 : h''.get? s.heap.objs.size = some { cls := .type "tuple", data := .seq #[.int i tk, x'] } := (sb.2 _ (Nat.ne_of_gt hel)).trans hT
    have new : ObjOk X.prog X.w (upd H s.heap.objs.size (.tup [.int (i : Nat), x])) h'' s.heap.objs.size (.tup [.int (i : Nat), x]) :=
      ⟨by show 2 ≤ sizeLine; decide, [.int i tk, x'], .cons ⟨_, rfl⟩ (.cons ru .nil), ⟨_, hT2, rfl, _, rfl⟩⟩
    have I1 : Inv X pins σ (upd H s.heap.objs.size (.tup [.int (i : Nat), x])) { s with heap := h'', toks := tk + 1 } :=
      I.turnedNew (ch := [e, it]) (fun b ob hb q => (sb.2 b (fun z => hb (by simp [z]))).trans (hk b ob (fun z => hb (by simp [z])) (fun z => hb (by simp [z])) q)) hf (Nat.le_refl _) new
    refine ⟨.ref s.heap.objs.size, _, I1, rfl, ⟨_, x, rfl, I.hok.fresh (Nat.le_refl _), rfl, fun ys hy => by rw [I.tuple_inj hy hq]; exact hx⟩, ⟨⟨x', ?_⟩, hit'.1.at fun o q => (sb.2 it (Ne.symm hne)).trans q, hne⟩, fun b hb => ?_⟩
    · have e1 : ((i + 1 : Nat) : Int) = (i : Int) + 1 := by omega
      rw [e1]; exact he'
    · have hb' : b < s.heap.objs.size := by
        have e' : b = e ∨ b = it := by simpa using hb
        rcases e' with z | z
        · rw [z]; exact hel
        · rw [z]; exact hil
      rw [upd_ne (Nat.ne_of_lt hb')]
      exact (hf b hb).1
  done := by
    intro X hP hw hK hc i pins s σ H E I hf st hg
    subst hP hw hK
    obtain ⟨⟨old, he⟩, hit, hne⟩ := st
    obtain ⟨xs, hq, hx⟩ := hg
    obtain ⟨its, rv, p, hz⟩ := I.tuple hq
    obtain ⟨f0, f1, f2, f3, f4, f5⟩ := hf it (by simp)
    have hl := rv.length
    have hn : its.toArray[i]? = none := by simp; omega
    have D0 : Draws X.prog X.w X.A.in1 it [it, a] 0 (fun _ _ => True) (fun j h => h.IsTupleIter it a (i + j) ∧ h.IsTuple a its.toArray) :=
      { live := fun _ _ st => let ⟨o, ho, _⟩ := st.1; ⟨o, ho⟩
        frame := fun _ _ _ st hk => ⟨st.1.at fun o e => hk it (by simp) o e, st.2.at fun o e => hk a (by simp) o e⟩
        item := fun j s Q E hj => absurd hj (Nat.not_lt_zero _)
        done := fun s Q E st hE => wpAny_nextOf_tuple_end (by exact I.ok.hd hc) st.1 st.2 (by simpa using hn) hE }
    exact wpAny_pyNext_enum_endD D0 he ⟨by simpa using hit, p⟩ fun h' eb => ⟨rfl, I.turned (t' := s.toks) (fun b o hb q => eb b o hb q) f0 f1 f3 f4 f5⟩
  self := fun A i s Q E st h => let ⟨⟨_, he⟩, _⟩ := st; wpAny_pyIter_enum he h
def iEnumA (K : PySem.W.Frag) (ta : TA) : TI := fun σ H R => ta σ H fun vs H1 => ∃ a xs, vs = [.ref a] ∧ ((SqL K H1 a xs ∧ R (Ite K a) H1) ∨ (SqT K H1 a xs ∧ R (IteT K a) H1))
theorem pi_enumA {X : Cx} {e : Expr} {ta : TA} {p pos tpos : Pos} {elts : List Expr} {kk : Nat} (hg : Gl X "enumerate") (hm : X.mg "enumerate" = none) (ha : PA X [e] ta) (hs : starEach [e] X.env = [(false, eval e X.env)] := by rfl) :
    PI X (.Tuple elts kk tpos) (.Call (.Name "enumerate" p) [e] [] pos) (iEnumA X.K ta) := by
  refine ⟨fun pins s σ H R I h => ?_⟩
  refine Call_ (ld_blt I hg hm boot_enumerate (PyProof.Rows.callWith_type1 (thn (ha.run pos pins s σ H _ I h) fun us s1 ⟨vs, H1, I1, r1, q1⟩ => ?_) hs rfl))
  obtain ⟨a, xs, ex, hq⟩ := q1
  subst ex
  cases r1 with
  | cons r rr =>
    cases rr
    cases r
    have new : ∀ b, b ∈ [s1.heap.objs.size + 1, s1.heap.objs.size] → s1.heap.objs.size ≤ b := fun b hb => by
      have e' : b = s1.heap.objs.size + 1 ∨ b = s1.heap.objs.size := by simpa using hb
      rcases e' with z | z
      · rw [z]; exact Nat.le_add_right _ _
      · rw [z]; exact Nat.le_refl _
    rcases hq with ⟨hq, q⟩ | ⟨hq, q⟩
    · obtain ⟨its, rv, p', hz⟩ := I1.list hq
      refine call_enumerate_list p'.isList fun h' he hit hsz hk => wpAny_pyIter_enum he ?_
      have I2 : Inv X pins σ H1 { s1 with heap := h' } := I1.kept (t' := s1.toks) hk
      exact ⟨s1.heap.objs.size + 1, [s1.heap.objs.size + 1, s1.heap.objs.size], _, _, H1, rfl, I2, turn_enum a (s1.heap.objs.size + 1) s1.heap.objs.size, ⟨⟨.none, he⟩, hit, Nat.succ_ne_self _⟩, fun b hb => I1.fpOk (new b hb) (I1.hok.fresh (new b hb)), q⟩
    · obtain ⟨its, rv, p', hz⟩ := I1.tuple hq
      have hal : a < s1.heap.objs.size := by obtain ⟨_, q, _⟩ := p'; exact Heap.lt_size q
      refine enum_beginsV (begins_tuple a its.toArray) p' fun h' he hit hsz hk => wpAny_pyIter_enum he ?_
      have I2 : Inv X pins σ H1 { s1 with heap := h' } := I1.kept (t' := s1.toks) hk
      exact ⟨s1.heap.objs.size + 1, [s1.heap.objs.size + 1, s1.heap.objs.size], _, _, H1, rfl, I2, turn_enumT a (s1.heap.objs.size + 1) s1.heap.objs.size (Nat.ne_of_lt hal) (Nat.ne_of_lt (Nat.lt_succ_of_lt hal)), ⟨⟨.none, he⟩, ⟨_, hit, rfl, rfl⟩, Nat.succ_ne_self _⟩, fun b hb => I1.fpOk (new b hb) (I1.hok.fresh (new b hb)), q⟩
def enumD : Nat → List D → List D
  | _, [] => []
  | k, x :: xs => .tup [.int k, x] :: enumD (k + 1) xs
theorem enumD_get : ∀ {xs : List D} {k i : Nat} {d : D}, (enumD k xs)[i]? = some d → ∃ x, xs[i]? = some x ∧ d = .tup [.int ((k + i : Nat) : Int), x]
  | [], _, _, _, e => by simp [enumD] at e
  | x :: xs, k, 0, d, e => by
    have e : some (D.tup [.int k, x]) = some d := e
    cases e
    exact ⟨x, rfl, rfl⟩
  | x :: xs, k, i + 1, d, e => by
    obtain ⟨y, h1, h2⟩ := enumD_get (xs := xs) (k := k + 1) (i := i) (d := d) e
    exact ⟨y, h1, by rw [h2, show k + 1 + i = k + (i + 1) by omega]⟩
theorem enumD_len : ∀ (xs : List D) (k : Nat), (enumD k xs).length = xs.length
  | [], _ => rfl
  | x :: xs, k => by
    show (enumD (k + 1) xs).length + 1 = xs.length + 1
    rw [enumD_len xs (k + 1)]
def fEnum : FI := fun rs items => match rs with
  | [(_, .lst xs)] => items = enumD 0 xs
  | [(_, .tup xs)] => items = enumD 0 xs
  | _ => False
def rEnumI (K : PySem.W.Frag) : RI := fun vs H Q => ∃ a xs, vs = [.ref a] ∧ ((SqL K H a xs ∧ Q (Ite K a) H) ∨ (SqT K H a xs ∧ Q (IteT K a) H))
theorem src_enum {K : PySem.W.Frag} {m : Mo} {xs : List D} {a : Addr} : Src (Ite K a) (enumD 0 xs) [(.dat m (.lst xs), some (.ref a))] where
  go := fun Z H S r h i d e => by
    obtain ⟨p, us, ep, hp, dv⟩ := (ent_vw r (h _ List.mem_cons_self)).lst
    cases ep
    obtain ⟨d1, e1, rfl⟩ := enumD_get e
    obtain ⟨x, hx, dx⟩ := dv.get e1
    refine ⟨⟨us, x, sqL_of hp, hx⟩, fun v H' ⟨T, x', e1, nT, e2, f1⟩ => ?_⟩
    subst e1 e2
    have g1 := f1 us (sqL_of hp); rw [hx] at g1; cases g1
    rw [Nat.zero_add]
    exact pair_new r nT dv_int dx
  stop := fun Z H S r h i hi => by
    obtain ⟨p, us, ep, hp, dv⟩ := (ent_vw r (h _ List.mem_cons_self)).lst
    cases ep
    rw [enumD_len] at hi
    exact ⟨us, sqL_of hp, by rw [dv.len]; omega⟩
theorem src_enumT {K : PySem.W.Frag} {m : Mo} {xs : List D} {a : Addr} : Src (IteT K a) (enumD 0 xs) [(.dat m (.tup xs), some (.ref a))] where
  go := fun Z H S r h i d e => by
    obtain ⟨p, us, ep, hp, dv, _⟩ := (ent_vw r (h _ List.mem_cons_self)).tup
    cases ep
    obtain ⟨d1, e1, rfl⟩ := enumD_get e
    obtain ⟨x, hx, dx⟩ := dv.get e1
    refine ⟨⟨us, x, SqT.of hp, hx⟩, fun v H' ⟨T, x', e1, nT, e2, f1⟩ => ?_⟩
    subst e1 e2
    have g1 := f1 us (SqT.of hp); rw [hx] at g1; cases g1
    rw [Nat.zero_add]
    exact pair_new r nT dv_int dx
  stop := fun Z H S r h i hi => by
    obtain ⟨p, us, ep, hp, dv, _⟩ := (ent_vw r (h _ List.mem_cons_self)).tup
    cases ep
    rw [enumD_len] at hi
    exact ⟨us, SqT.of hp, by rw [dv.len]; omega⟩
theorem fEnum.ok {K : PySem.W.Frag} : IOk (rEnumI K) fEnum := by
  intro Z H S es rs vs items Q r h en e k
  unfold fEnum at e
  split at e
  · cases e
    obtain ⟨m, v, rfl, rfl, _⟩ := ents1 en
    obtain ⟨p, us, rfl, hp, dv⟩ := (ent_vw r (h _ List.mem_cons_self)).lst
    exact ⟨p, us, rfl, .inl ⟨sqL_of hp, k _ src_enum⟩⟩
  · cases e
    obtain ⟨m, v, rfl, rfl, _⟩ := ents1 en
    obtain ⟨p, us, rfl, hp, dv, _⟩ := (ent_vw r (h _ List.mem_cons_self)).tup
    exact ⟨p, us, rfl, .inr ⟨SqT.of hp, k _ src_enumT⟩⟩
  · cases e
end G
end
section
set_option Elab.async false
set_option linter.all false
set_option maxRecDepth 100000
namespace G
open PySem PySem.Spec L2
def wipeR (ρ : Rh) : List Nat → Rh
  | [] => ρ
  | v :: vs => (wipeR ρ vs).set v .un
def unwipe (ρ : Rh) : List Nat → Rh → Rh
  | [], ρ' => ρ'
  | v :: vs, ρ' => unwipe ρ vs (ρ'.set v ((wipeR ρ vs).getD v .un))
theorem wipeR_len (ρ : Rh) : ∀ vs : List Nat, (wipeR ρ vs).length = ρ.length
  | [] => rfl
  | v :: vs => by unfold wipeR; rw [List.length_set, wipeR_len ρ vs]
theorem wipeR_at (ρ : Rh) : ∀ (vs : List Nat) (i : Nat), (wipeR ρ vs)[i]? = if i ∈ vs then (ρ[i]?).map (fun _ => Slot.un) else ρ[i]?
  | [], i => by simp [wipeR]
  | v :: vs, i => by
    unfold wipeR
    rw [List.getElem?_set]
    have ih := wipeR_at ρ vs i
    by_cases e : v = i
    · subst e
      rw [wipeR_len]
      simp only [if_true, List.mem_cons, true_or]
      by_cases h : v < ρ.length
      · simp [h]
      · simp [h]
    · rw [if_neg e, ih]
      have : (i ∈ v :: vs) ↔ i ∈ vs := by simp [Ne.symm e]
      simp only [this]
theorem wipeV_at (σ : SV) : ∀ (vs : List Nat) (i : Nat), (L2.wipe σ vs)[i]? = if i ∈ vs then (σ[i]?).map (fun _ => (none : Option V)) else σ[i]?
  | [], i => by simp [L2.wipe]
  | v :: vs, i => by
    unfold L2.wipe
    rw [List.getElem?_set]
    have ih := wipeV_at σ vs i
    by_cases e : v = i
    · subst e
      rw [L2.wipe_length]
      simp only [if_true, List.mem_cons, true_or]
      by_cases h : v < σ.length
      · simp [h]
      · simp [h]
    · rw [if_neg e, ih]
      have : (i ∈ v :: vs) ↔ i ∈ vs := by simp [Ne.symm e]
      simp only [this]
theorem not_own_un {ov : Option V} {a : Addr} : ¬ own (.un, ov) a := fun ⟨_, _, e, _⟩ => by cases e
theorem un_ok {H : Hp} {O : Addr → Prop} {ov : Option V} : EntOk H O (.un, ov) := fun m d e => by cases e
theorem wipe_rep {Z : Addr → Prop} {H : Hp} {ρ : Rh} {σ : SV} (hl : ρ.length = σ.length) : ∀ (vs : List Nat) (T : List En), RepL Z H (ρ.zip σ ++ T) → ∃ xs : List En, RepL Z H ((wipeR ρ vs).zip (L2.wipe σ vs) ++ (xs ++ T)) ∧
    (∀ a, OwnL (xs ++ (wipeR ρ vs).zip (L2.wipe σ vs)) a → OwnL (ρ.zip σ) a) ∧ (∀ e ∈ ρ.zip σ, e ∈ xs ++ (wipeR ρ vs).zip (L2.wipe σ vs)) ∧
    ∀ (Z' : Addr → Prop) (H' : Hp) (ρ' : Rh) (T' : List En), ρ'.length = σ.length → RepL Z' H' (ρ'.zip (L2.wipe σ vs) ++ (xs ++ T')) → RepL Z' H' ((unwipe ρ vs ρ').zip σ ++ T') ∧ ∀ a, OwnL ((unwipe ρ vs ρ').zip σ) a → OwnL (xs ++ ρ'.zip (L2.wipe σ vs)) a
  | [], T, r => ⟨[], r, fun a z => z, fun e h => h, fun Z' H' ρ' T' _ r' => ⟨r', fun a z => z⟩⟩
  | v :: vs, T, r => by
    obtain ⟨xs, r1, o1, m1, b1⟩ := wipe_rep hl vs T r
    have hl1 : (wipeR ρ vs).length = (L2.wipe σ vs).length := by rw [wipeR_len, L2.wipe_length, hl]
    cases hx : ((wipeR ρ vs).zip (L2.wipe σ vs))[v]? with
    | none =>
      have hv : σ.length ≤ v := by
        have := List.getElem?_eq_none_iff.mp hx
        rw [List.length_zip, wipeR_len, L2.wipe_length, hl] at this
        omega
      have e1 : wipeR ρ (v :: vs) = wipeR ρ vs := List.set_eq_of_length_le (by rw [wipeR_len, hl]; exact hv)
      have e2 : L2.wipe σ (v :: vs) = L2.wipe σ vs := List.set_eq_of_length_le (by rw [L2.wipe_length]; exact hv)
      refine ⟨xs, by rw [e1, e2]; exact r1, by rw [e1, e2]; exact o1, by rw [e1, e2]; exact m1, fun Z' H' ρ' T' hl' r' => ?_⟩
      rw [e2] at r' ⊢
      unfold unwipe
      rw [List.set_eq_of_length_le (by rw [hl']; exact hv)]
      exact b1 Z' H' ρ' T' hl' r'
    | some x =>
      obtain ⟨rest, p1, p2⟩ := set_perm hx
      have ez : (wipeR ρ (v :: vs)).zip (L2.wipe σ (v :: vs)) = ((wipeR ρ vs).zip (L2.wipe σ vs)).set v (.un, none) := zip_set v .un none
      have hg := List.getElem?_zip_eq_some.mp hx
      have hvl : v < σ.length := by have := (List.getElem?_eq_some_iff.mp hg.1).1; rw [wipeR_len, hl] at this; exact this
      refine ⟨x :: xs, ?_, fun a z => ?_, fun e he => ?_, fun Z' H' ρ' T' hl' r' => ?_⟩
      · rw [ez]
        have q : RepL Z H (((Slot.un, none) : En) :: ((wipeR ρ vs).zip (L2.wipe σ vs) ++ (xs ++ T))) := r1.push un_ok fun a => not_own_un
        refine q.perm ?_
        have s1 : (((Slot.un, none) : En) :: ((wipeR ρ vs).zip (L2.wipe σ vs) ++ (xs ++ T))).Perm ((Slot.un, none) :: (x :: rest ++ (xs ++ T))) := (p1.append_right _).cons _
        refine s1.trans ?_
        have s2 : ((Slot.un, none) :: rest ++ (x :: xs ++ T)).Perm (((wipeR ρ vs).zip (L2.wipe σ vs)).set v (.un, none) ++ (x :: xs ++ T)) := ((p2 (.un, none)).symm).append_right _
        refine List.Perm.trans ?_ s2
        show ((Slot.un, none) :: (x :: (rest ++ (xs ++ T)))).Perm ((Slot.un, none) :: (rest ++ (x :: (xs ++ T))))
        exact (List.perm_middle.symm).cons _
      · refine o1 a ?_
        rw [ez] at z
        rcases OwnL.cons.mp z with z | z
        · exact OwnL.app.mpr (.inr ((OwnL.perm p1).mpr (OwnL.cons.mpr (.inl z))))
        · rcases OwnL.app.mp z with z | z
          · exact OwnL.app.mpr (.inl z)
          · rcases OwnL.cons.mp ((OwnL.perm (p2 _)).mp z) with z | z
            · exact (not_own_un z).elim
            · exact OwnL.app.mpr (.inr ((OwnL.perm p1).mpr (OwnL.cons.mpr (.inr z))))
      · rw [ez]
        rcases List.mem_append.mp (m1 e he) with h | h
        · exact List.mem_append_left _ (List.mem_cons_of_mem _ h)
        · rcases List.mem_cons.mp (p1.mem_iff.mp h) with rfl | h
          · exact List.mem_append_left _ List.mem_cons_self
          · exact List.mem_append_right _ ((p2 _).mem_iff.mpr (List.mem_cons_of_mem _ h))
      · have e3 : (wipeR ρ vs).getD v .un = x.1 := by rw [List.getD_eq_getElem?_getD, hg.1]; rfl
        have wz : L2.wipe σ (v :: vs) = (L2.wipe σ vs).set v none := rfl
        have back : (ρ'.set v x.1).zip (L2.wipe σ vs) = (ρ'.zip (L2.wipe σ (v :: vs))).set v x := by
          rw [wz]
          have := zip_set (ρ := ρ') (σ := (L2.wipe σ vs).set v none) v x.1 x.2
          rw [← this, List.set_set, set_get_self hg.2]
        have hy : ∃ y, (ρ'.zip (L2.wipe σ (v :: vs)))[v]? = some y := by
          have : v < (ρ'.zip (L2.wipe σ (v :: vs))).length := by rw [List.length_zip, L2.wipe_length, hl', Nat.min_self]; exact hvl
          exact ⟨_, List.getElem?_eq_getElem this⟩
        obtain ⟨y, hy⟩ := hy
        obtain ⟨rest', p1', p2'⟩ := set_perm hy
        have r3 : RepL Z' H' ((ρ'.set v x.1).zip (L2.wipe σ vs) ++ (xs ++ T')) := by
          rw [back]
          have q : RepL Z' H' (y :: (x :: rest' ++ (xs ++ T'))) := r'.perm (by
            refine (p1'.append_right _).trans ?_
            show (y :: (rest' ++ (x :: (xs ++ T')))).Perm (y :: (x :: (rest' ++ (xs ++ T'))))
            exact (List.perm_middle).cons _)
          exact (q.drop (P := [y])).perm (((p2' x).symm).append_right _)
        obtain ⟨r4, o4⟩ := b1 Z' H' (ρ'.set v x.1) T' (by rw [List.length_set]; exact hl') r3
        unfold unwipe
        rw [e3]
        refine ⟨r4, fun a z => ?_⟩
        rcases OwnL.app.mp (o4 a z) with z | z
        · exact OwnL.app.mpr (.inl (OwnL.cons.mpr (.inr z)))
        · rw [back] at z
          rcases OwnL.cons.mp ((OwnL.perm (p2' x)).mp z) with z | z
          · exact OwnL.app.mpr (.inl (OwnL.cons.mpr (.inl z)))
          · exact OwnL.app.mpr (.inr ((OwnL.perm p1').mpr (OwnL.cons.mpr (.inr z))))
structure Pt (Z : Addr → Prop) (T : List En) (ρ : Rh) (σ : SV) (H : Hp) (p : Addr) (acc : List D) (ρ' : Rh) (σ' : SV) (H' : Hp) : Prop where
  len : ρ'.length = σ'.length
  lens : σ'.length = σ.length
  rep : RepL Z H' (ρ'.zip σ' ++ ((.dat .ow (.lst acc), some (.ref p)) :: T))
  keep : Keep (OwnL (ρ.zip σ)) H H'
  grow : ∀ a, OwnL (ρ'.zip σ') a → OwnL (ρ.zip σ) a ∨ H a = none
  sta : Sta ρ σ ρ' σ'
section
variable {Z : Addr → Prop} {T X : List En} {ρ ρ1 ρ2 : Rh} {σ σ1 σ2 : SV} {H H1 H2 : Hp} {p : Addr} {acc : List D}
theorem Pt.nx (a : Pt Z T ρ σ H p acc ρ1 σ1 H1) (b : Nx Z ((.dat .ow (.lst acc), some (.ref p)) :: T) ρ1 σ1 H1 [] ρ2 σ2 H2) : Pt Z T ρ σ H p acc ρ2 σ2 H2 where
  len := b.len
  lens := b.lens.trans a.lens
  rep := b.rep
  keep := a.keep.trans b.keep a.grow
  grow := fun c z => by
    rcases b.grow c z with z | z
    · exact a.grow c z
    · exact back a.keep z
  sta := a.sta.trans b.sta
theorem Pt.start (hl : ρ.length = σ.length) (r : RepL Z H (ρ.zip σ ++ T)) (np : H p = none) : Pt Z T ρ σ H p [] ρ σ (upd H p (.lst [])) where
  len := hl
  lens := rfl
  rep := (r.fresh (m := .ow) (d := .lst []) (same_new np) rfl np ⟨[], upd_same, DVs.nil⟩).perm (List.perm_middle (l₁ := ρ.zip σ)).symm
  keep := fun b o q _ => same_new np b o q
  grow := fun _ z => .inl z
  sta := .refl
theorem Pt.app {r : R} {y : V} {ys : List V} (a : Pt Z T ρ σ H p acc ρ1 σ1 H1) (hr : okR r.1) (np : H p = none) (b : Nx Z ((.dat .ow (.lst acc), some (.ref p)) :: T) ρ1 σ1 H1 [(.dat r.1 r.2, some y)] ρ2 σ2 H2) (hp : H2 p = some (.lst ys)) :
    ys.length = acc.length ∧ Pt Z T ρ σ H p (acc ++ [r.2]) ρ2 σ2 (upd H2 p (.lst (ys ++ [y]))) := by
  have rb : RepL Z H2 ((Slot.dat r.1 r.2, some y) :: (ρ2.zip σ2 ++ ((.dat .ow (.lst acc), some (.ref p)) :: T))) := b.rep
  have pm : ((Slot.dat r.1 r.2, some y) :: (ρ2.zip σ2 ++ ((.dat .ow (.lst acc), some (.ref p)) :: T)) : List En).Perm ((Slot.dat r.1 r.2, some y) :: (.dat .ow (.lst acc), some (.ref p)) :: (ρ2.zip σ2 ++ T)) := (List.perm_middle (l₁ := ρ2.zip σ2)).cons _
  have r2 := rb.perm pm
  have dvy : DV H2 (fun c => Z c ∨ OwnL ((.dat .ow (.lst acc), some (.ref p)) :: (ρ2.zip σ2 ++ T)) c) r.2 y := r2.temp hr.or
  have r3 : RepL Z H2 ((.dat .ow (.lst acc), some (.ref p)) :: (ρ2.zip σ2 ++ T)) := r2.drop (P := [_])
  obtain ⟨v, ev, hv⟩ := r3.ok _ List.mem_cons_self .ow (.lst acc) rfl
  cases ev
  obtain ⟨q, eq, oq, xs, hq, dvs⟩ := hv
  cases eq
  rw [hp] at hq
  cases hq
  have ow : ∀ d, own (Slot.dat .ow d, some (V.ref p)) p := fun d => ⟨.ow, d, rfl, rfl, rfl⟩
  have ow' : ∀ d b, own (Slot.dat .ow d, some (V.ref p)) b → b = p := fun d b o => by
    obtain ⟨_, _, _, _, e⟩ := o
    exact (V.ref.inj (Option.some.inj e)).symm
  have P1 : ∀ d b, OwnL [(Slot.dat .ow d, some (V.ref p))] b ↔ b = p := fun d b => by
    constructor
    · rintro ⟨x, hx, o⟩; rw [List.mem_singleton] at hx; subst hx; exact ow' _ b o
    · rintro rfl; exact ⟨_, List.mem_singleton.mpr rfl, ow _⟩
  have nS : ∀ c, (Z c ∨ OwnL (ρ2.zip σ2 ++ T) c) → c ≠ p := fun c z e => by
    rw [e] at z
    rcases z with z | z
    · exact r3.out p (OwnL.cons.mpr (.inl (ow _))) z
    · exact r3.cross (P := [_]) ⟨_, List.mem_singleton.mpr rfl, ow _⟩ z
  have kp : ∀ b o, H2 b = some o → b ≠ p → (upd H2 p (.lst (ys ++ [y]))) b = some o := upd_keep
  have r' : RepL (fun b => Z b ∨ OwnL (ρ2.zip σ2 ++ T) b) (upd H2 p (.lst (ys ++ [y]))) [(Slot.dat .ow (.lst (acc ++ [r.2])), some (V.ref p))] := by
    refine ⟨fun x hx => ?_, fun b z => fun z2 => nS b z2 ((P1 _ b).mp z), List.pairwise_singleton _ _, fun b z => ?_⟩
    · rw [List.mem_singleton] at hx
      subst hx
      intro m' d'' e
      cases e
      refine ⟨_, rfl, p, rfl, .inr ((P1 _ p).mpr rfl), _, upd_same, DVs.keep (fun b o q n => kp b o q fun e => n (by rw [e]; exact oq)) (fun b z => .inl ?_) _ _ (dvs.app (DVs.cons dvy DVs.nil))⟩
      rcases z with (z | z) | z
      · exact .inl z
      · exact .inr (OwnL.cons.mpr (.inr z))
      · rw [(P1 _ b).mp z]; exact oq
    · have : ∃ o, H2 b = some o := by
        rcases z with z | z
        · exact r3.zt b z
        · exact r3.trk (OwnL.cons.mpr (.inr z))
      obtain ⟨o, q⟩ := this
      exact ⟨o, kp b o q (nS b z)⟩
  have j := RepL.join (P := [(Slot.dat .ow (.lst acc), some (V.ref p))]) (P' := [(Slot.dat .ow (.lst (acc ++ [r.2])), some (V.ref p))]) (S := ρ2.zip σ2 ++ T) r3 r' (fun b o q nb => kp b o q fun e => nb ((P1 _ b).mpr e)) (fun b z => .inl ((P1 _ b).mpr ((P1 _ b).mp z)))
  refine ⟨dvs.len, b.len, b.lens.trans a.lens, j.perm (List.perm_middle (l₁ := ρ2.zip σ2)).symm, fun c o q n => ?_, fun c z => ?_, a.sta.trans b.sta⟩
  · refine kp c o (b.keep c o (a.keep c o q n) fun z => ?_) fun e => by rw [e, np] at q; cases q
    rcases a.grow c z with z | z
    · exact n z
    · rw [q] at z; cases z
  · rcases b.grow c (OwnL.cons.mpr (.inr z)) with z | z
    · exact a.grow c z
    · exact back a.keep z
end
end G
end
section
set_option Elab.async false
set_option linter.all false
set_option maxRecDepth 100000
namespace G
open PySem PySem.Spec L2
def noX : XQ := fun _ _ => False
abbrev W0 : WX := fun _ _ _ _ => False
def compW (g : WGt) (t : WT) (e : WE) (vs : List Nat) : List D → Rh → List D → (List D → Rh → Prop) → Prop
  | [], ρ, acc, Q => Q acc ρ
  | d :: ds, ρ, acc, Q => g (.sh, d) ρ (fun ρ1 => t ρ1 (fun b ρ2 => if b = true then e ρ2 (fun r ρ3 => okR r.1 ∧ acc.length < sizeLine ∧ compW g t e vs ds (wipeR ρ3 vs) (acc ++ [r.2]) Q) noX else compW g t e vs ds (wipeR ρ2 vs) acc Q) noX) noX
def wComp (f : FI) (wa : WA) (g : WGt) (t : WT) (e : WE) (vs : List Nat) : WE := fun ρ Q E => wa ρ (fun as ρ1 => match ress ρ1 as with
  | some rs => ∃ items, f rs items ∧ compW g t e vs items (wipeR (lend (locs as) ρ1) vs) [] fun acc ρ' => Q (.ow, .lst acc) (home (locs as) ρ1 (unwipe (lend (locs as) ρ1) vs ρ'))
  | none => False) E
theorem compW.mono {g : WGt} {t : WT} {e : WE} {vs : List Nat} (mg : MonoT g) (mt : MonoG t) (me : MonoG e) : ∀ (ds : List D) (ρ : Rh) (acc : List D) (Q Q' : List D → Rh → Prop), (∀ a ρ', Q a ρ' → Q' a ρ') → compW g t e vs ds ρ acc Q → compW g t e vs ds ρ acc Q'
  | [], ρ, acc, Q, Q', h, q => h _ _ q
  | d :: ds, ρ, acc, Q, Q', h, q => by
    unfold compW at q ⊢
    refine mg _ _ _ _ _ _ (fun ρ1 q => mt _ _ _ _ _ (fun b ρ2 q => ?_) (fun _ _ z => z) q) (fun _ _ z => z) q
    cases b with
    | true => exact me _ _ _ _ _ (fun r ρ3 q => ⟨q.1, q.2.1, compW.mono mg mt me ds _ _ Q Q' h q.2.2⟩) (fun _ _ z => z) q
    | false => exact compW.mono mg mt me ds _ _ Q Q' h q
theorem wComp.mono {f : FI} {wa : WA} {g : WGt} {t : WT} {e : WE} {vs : List Nat} (ma : MonoG wa) (mg : MonoT g) (mt : MonoG t) (me : MonoG e) : MonoG (wComp f wa g t e vs) := fun ρ Q Q' E E' hQ hE h => ma _ _ _ _ _ (fun as ρ1 z => by
  split at z
  · obtain ⟨items, e, z⟩ := z
    exact ⟨items, e, compW.mono mg mt me _ _ _ _ _ (fun a ρ' q => hQ _ _ q) z⟩
  · exact z.elim) hE h
theorem unwipe_len (ρ : Rh) : ∀ (vs : List Nat) (ρ' : Rh), (unwipe ρ vs ρ').length = ρ'.length
  | [], ρ' => rfl
  | v :: vs, ρ' => by unfold unwipe; rw [unwipe_len ρ vs, List.length_set]
theorem unwipe_at (ρ : Rh) : ∀ (vs : List Nat) (ρ' : Rh) (i : Nat), ρ.length = ρ'.length → (unwipe ρ vs ρ')[i]? = if i ∈ vs then ρ[i]? else ρ'[i]?
  | [], ρ', i, _ => by simp [unwipe]
  | v :: vs, ρ', i, hl => by
    unfold unwipe
    rw [unwipe_at ρ vs _ i (by rw [List.length_set]; exact hl)]
    by_cases hi : i ∈ vs
    · simp [hi]
    · simp only [hi, if_false]
      rw [List.getElem?_set]
      by_cases e : v = i
      · subst e
        simp only [if_true, List.mem_cons, true_or]
        rw [List.getD_eq_getElem?_getD, wipeR_at, if_neg hi]
        by_cases h : v < ρ'.length
        · have h2 : v < ρ.length := by omega
          simp [h, h2]
        · have h2 : ¬ v < ρ.length := by omega
          simp [h, h2]
      · have : ¬ i ∈ v :: vs := by simp [hi, Ne.symm e]
        rw [if_neg e, if_neg this]
theorem Pt.wipe {Z : Addr → Prop} {T : List En} {ρ ρ1 : Rh} {σ σ1 : SV} {H H1 : Hp} {p : Addr} {acc : List D} {vs : List Nat} (a : Pt Z T (wipeR ρ vs) (L2.wipe σ vs) H p acc ρ1 σ1 H1) (hw : L2.wipe σ1 vs = L2.wipe σ vs) : Pt Z T (wipeR ρ vs) (L2.wipe σ vs) H p acc (wipeR ρ1 vs) (L2.wipe σ vs) H1 := by
  obtain ⟨xs, r, o, _, _⟩ := wipe_rep a.len vs _ a.rep
  rw [hw] at r o
  refine ⟨by rw [wipeR_len, a.len, a.lens], rfl, r.sub ((List.sublist_append_right xs _).append_left _), a.keep, fun c z => a.grow c (o c (OwnL.app.mpr (.inr z))), fun i m d e hm => ?_⟩
  have ni : i ∉ vs := fun z => by
    rw [wipeR_at, if_pos z] at e
    cases q : ρ[i]? with
    | none => rw [q] at e; cases e
    | some s => rw [q] at e; cases e
  obtain ⟨d', h1, h2, h3⟩ := a.sta i m d e hm
  exact ⟨d', by rw [wipeR_at, if_neg ni]; exact h1, h2, rfl⟩
theorem wipe_same {σ σ1 : SV} {vs : List Nat} (hl : σ1.length = σ.length) (h : ∀ i, vs.contains i = false → σ1[i]? = (L2.wipe σ vs)[i]?) : L2.wipe σ1 vs = L2.wipe σ vs := by
  apply List.ext_getElem?
  intro i
  rw [wipeV_at, wipeV_at]
  by_cases hi : i ∈ vs
  · rw [if_pos hi, if_pos hi]
    by_cases q : i < σ.length
    · have q2 : i < σ1.length := by omega
      simp [q, q2]
    · have q2 : ¬ i < σ1.length := by omega
      simp [q, q2]
  · rw [if_neg hi, if_neg hi]
    have := h i (by simpa using hi)
    rw [this, wipeV_at, if_neg hi]
section
variable {cl : Str → Value} {W : WX}
theorem compI {r : RI} {f : FI} {wa : WA} {g : WGt} {t : WT} {e : WE} {vs : List Nat} (ma : MonoG wa) (mg : MonoT g) (mt : MonoG t) (me : MonoG e) (ok : IOk r f) :
    ∀ σ H Q, tE cl W (wComp f wa g t e vs) σ H Q → tLc (fun σ H Q => tA cl W wa σ H fun vs H1 => r vs H1 Q) (tGt (fun i => vs.contains i) cl W0 g) (tT cl W0 t) (tE cl W0 e) vs σ H Q := fun σ H Q q => by
  obtain ⟨Z, T, ρ, hl, rp, q⟩ := q
  refine ⟨Z, T, ρ, hl, rp, ma _ _ _ _ _ (fun as ρ1 q vv X1 H1 er n1 => ?_) (fun _ _ z => z) q⟩
  split at q
  · rename_i rs ers
    obtain ⟨items, eit, q⟩ := q
    have r0 : RepL Z H1 ((lend (locs as) ρ1).zip σ ++ (X1 ++ T)) := by
      have r1 : RepL Z H1 (ρ1.zip σ ++ (X1 ++ T)) := n1.rep.perm (by
        rw [← List.append_assoc, ← List.append_assoc]
        exact (List.perm_append_comm (l₁ := X1) (l₂ := ρ1.zip σ)).append_right T)
      exact r1.label (lend_eqR _ _)
    obtain ⟨Y, es, sY, en, st, rY, owY⟩ := prep n1.len as vv rs X1 er ers (fun i hi => List.contains_iff_mem.mpr hi) X1 (fun _ h => h) r0
    have n0 : Nx Z T ρ σ H [] ρ1 σ H1 := Nx.let (X := X1) (Y := []) (by rw [List.append_nil]; exact n1)
    have hlL : (lend (locs as) ρ1).length = σ.length := by rw [lend_len]; exact n1.len
    have fin : ∀ {Xr : List En} {ρ' : Rh} {σ' : SV} {H' : Hp}, Nx Z (Y ++ T) (lend (locs as) ρ1) σ H1 Xr ρ' σ' H' → Nx Z T ρ σ H Xr (home (locs as) ρ1 ρ') σ' H' := fun nL => n0.trans (Nx.lessY (Nx.home n1.len nL))
    refine ok Z H1 _ es rs vv items _ rY (fun e he => (st e he).there (Nx.refl hlL rY)) en eit fun J src p np => ?_
    generalize hρL : lend (locs as) ρ1 = ρL at *
    obtain ⟨xs, rW, oW, mW, bW⟩ := wipe_rep hlL vs (Y ++ T) rY
    have hlB : (wipeR ρL vs).length = (L2.wipe σ vs).length := by rw [wipeR_len, L2.wipe_length, hlL]
    -- the sources stand by
    have stB : ∀ e ∈ es, Stable (wipeR ρL vs) (L2.wipe σ vs) (xs ++ Y) e := fun e he => by
      rcases st e he with h | ⟨i, d, e1, e2, e3⟩
      · exact .inl (List.mem_append_right _ h)
      · have hm : e ∈ ρL.zip σ := List.mem_of_getElem? (i := i) (List.getElem?_zip_eq_some.mpr ⟨by rw [e1]; exact e2, e3⟩)
        rcases List.mem_append.mp (mW e hm) with h | h
        · exact .inl (List.mem_append_left _ h)
        · obtain ⟨j, hj, ej⟩ := List.mem_iff_getElem.mp h
          have ej' : ((wipeR ρL vs).zip (L2.wipe σ vs))[j]? = some e := by rw [List.getElem?_eq_getElem hj, ej]
          rw [List.getElem?_zip_eq_some] at ej'
          exact .inr ⟨j, d, e1, by rw [← e1]; exact ej'.1, ej'.2⟩
    have there : ∀ {acc : List D} {ρ' : Rh} {σ' : SV} {H' : Hp}, Pt Z (xs ++ (Y ++ T)) (wipeR ρL vs) (L2.wipe σ vs) H1 p acc ρ' σ' H' → ∀ e ∈ es, e ∈ ρ'.zip σ' ++ ((.dat .ow (.lst acc), some (.ref p)) :: (xs ++ (Y ++ T))) := fun {acc ρ' σ' H'} a e he => by
      rcases stB e he with h | ⟨i, d, e1, e2, e3⟩
      · refine List.mem_append_right _ (List.mem_cons_of_mem _ ?_)
        rw [← List.append_assoc]
        exact List.mem_append_left _ h
      · obtain ⟨d', h1, h2, h3⟩ := a.sta i .ln d e2 (.inr rfl)
        cases h2 rfl
        exact List.mem_append_left _ (List.mem_of_getElem? (i := i) (List.getElem?_zip_eq_some.mpr ⟨by rw [e1]; exact h1, h3.trans e3⟩))
    refine ⟨fun i m H' => m = items.length - i ∧ i ≤ items.length ∧ ∃ ρ' acc, Pt Z (xs ++ (Y ++ T)) (wipeR ρL vs) (L2.wipe σ vs) H1 p acc ρ' (L2.wipe σ vs) H' ∧ compW g t e vs (items.drop i) ρ' acc _, ⟨_, rfl, Nat.zero_le _, _, [], Pt.start hlB rW np, q⟩, ?_⟩
    rintro i m H' ⟨rfl, hi, ρ', acc, pt, qc⟩
    by_cases hlt : i < items.length
    · right
      have ei : items[i]? = some items[i] := by simp [hlt]
      obtain ⟨go, yl⟩ := src.go Z H' _ pt.rep (there pt) i _ ei
      rw [List.drop_eq_getElem_cons hlt] at qc
      unfold compW at qc
      refine ⟨go, fun H3 => ∃ ρ3 acc3, Pt Z (xs ++ (Y ++ T)) (wipeR ρL vs) (L2.wipe σ vs) H1 p acc3 ρ3 (L2.wipe σ vs) H3 ∧ compW g t e vs (items.drop (i + 1)) ρ3 acc3 _, fun H3 ⟨ρ3, acc3, p3, q3⟩ => ⟨_, by omega, rfl, hlt, ρ3, acc3, p3, q3⟩, fun x H2 hy => ?_⟩
      obtain ⟨sm, dv⟩ := yl x H2 hy
      have no : ∀ a, ¬ own (Slot.dat .sh items[i], some x) a := fun a => not_own_sh
      have nr : Nx Z ((.dat .ow (.lst acc), some (.ref p)) :: (xs ++ (Y ++ T))) ρ' (L2.wipe σ vs) H' [] ρ' (L2.wipe σ vs) H2 := (Nx.refl pt.len pt.rep).same sm
      refine ⟨Z, (.dat .ow (.lst acc), some (.ref p)) :: (xs ++ (Y ++ T)), ρ', (.sh, items[i]), pt.len, (pt.rep.same sm).push (fun m d' e => by cases e; exact ⟨x, rfl, dv⟩) no, mg _ _ _ _ _ _ (fun ρ2 q2 σ2 H3 ng => ?_) (fun xx ρ2 q2 σ2 H3 ng => (q2 : False).elim) qc⟩
      have n3 := nr.trans (Nx.refl_tgt no ng)
      have hw : L2.wipe σ2 vs = L2.wipe σ vs := wipe_same (by rw [ng.lens, L2.wipe_length]) fun j hj => ng.out j hj
      have pt3 := pt.nx n3
      refine ⟨hw, Z, (.dat .ow (.lst acc), some (.ref p)) :: (xs ++ (Y ++ T)), ρ2, n3.len, n3.rep, mt _ _ _ _ _ (fun b ρ3 q3 b' X3 H4 er3 n4 => ?_) (fun xx ρ3 q3 H4 n4 => (q3 : False).elim) q2⟩
      obtain ⟨rfl, rfl⟩ := er3
      have pt4 := pt3.nx n4
      cases b with
      | false =>
        rw [if_neg Bool.false_ne_true] at q3 ⊢
        exact ⟨_, _, pt4.wipe hw, q3⟩
      | true =>
        rw [if_pos rfl] at q3 ⊢
        refine ⟨Z, (.dat .ow (.lst acc), some (.ref p)) :: (xs ++ (Y ++ T)), ρ3, n4.len, n4.rep, me _ _ _ _ _ (fun rr ρ4 q4 y X4 H5 er4 n5 => ?_) (fun xx ρ4 q4 H5 n5 => (q4 : False).elim) q3⟩
        have er4 : X4 = _ := er4
        subst er4
        obtain ⟨okr, hlen, q5⟩ := q4
        have hp5 : ∃ ys, H5 p = some (.lst ys) := by
          obtain ⟨v, ev, hv⟩ := n5.rep.ok (.dat .ow (.lst acc), some (.ref p)) (List.mem_append_right _ (List.mem_append_right _ List.mem_cons_self)) .ow (.lst acc) rfl
          cases ev
          obtain ⟨q, eq, _, ys, h1, _⟩ := hv
          cases eq
          exact ⟨ys, h1⟩
        obtain ⟨ys, hp5⟩ := hp5
        obtain ⟨hly, pt5⟩ := pt4.app okr np n5 hp5
        exact ⟨ys, hp5, by rw [hly]; exact hlen, _, _, pt5.wipe hw, q5⟩
    · left
      refine ⟨src.stop Z H' _ pt.rep (there pt) i (by omega), ?_⟩
      rw [List.drop_eq_nil_of_le (by omega)] at qc
      have hlr : ρ'.length = σ.length := by rw [pt.len, L2.wipe_length]
      have rr : RepL Z H' (ρ'.zip (L2.wipe σ vs) ++ (xs ++ ((.dat .ow (.lst acc), some (.ref p)) :: (Y ++ T)))) := pt.rep.perm ((List.perm_middle (l₁ := xs) (a := ((Slot.dat .ow (.lst acc), some (V.ref p)) : En))).symm.append_left _)
      obtain ⟨r6, o6⟩ := bW Z H' ρ' _ hlr rr
      have hB : ∀ a, OwnL ((wipeR ρL vs).zip (L2.wipe σ vs)) a → OwnL (ρL.zip σ) a := fun a z => oW a (OwnL.app.mpr (.inr z))
      have nf : Nx Z (Y ++ T) ρL σ H1 [(.dat .ow (.lst acc), some (.ref p))] (unwipe ρL vs ρ') σ H' := by
        refine ⟨by rw [unwipe_len]; exact hlr, rfl, r6.perm (List.perm_middle (l₁ := (unwipe ρL vs ρ').zip σ)), fun b o q nb => pt.keep b o q fun z => nb (hB b z), fun a z => ?_, fun j m d ej hm => ?_⟩
        · rcases OwnL.cons.mp z with z | z
          · obtain ⟨_, _, _, _, ez⟩ := z
            cases V.ref.inj (Option.some.inj ez)
            exact .inr np
          · rcases OwnL.app.mp (o6 a z) with z | z
            · exact .inl (oW a (OwnL.app.mpr (.inl z)))
            · exact (pt.grow a z).imp (hB a) id
        · rw [unwipe_at ρL vs ρ' j (by rw [hlL, hlr])]
          by_cases hj : j ∈ vs
          · rw [if_pos hj]
            exact ⟨d, ej, fun _ => rfl, rfl⟩
          · rw [if_neg hj]
            obtain ⟨d', h1, h2, h3⟩ := pt.sta j m d (by rw [wipeR_at, if_neg hj]; exact ej) hm
            exact ⟨d', h1, h2, rfl⟩
      exact qc _ _ H' rfl (fin nf)
  · exact q.elim
end
end G
end
section
set_option Elab.async false
set_option linter.all false
set_option maxRecDepth 100000
namespace G
open PySem PySem.Spec L2
structure FSpec where
  ar : Nat
  pm : List Bool
  run : List R → (R → List D → Prop) → (Xn → List D → Prop) → Prop
  mono : ∀ rs (Q Q' : R → List D → Prop) (E E' : Xn → List D → Prop), (∀ r o, Q r o → Q' r o) → (∀ x o, E x o → E' x o) → run rs Q E → run rs Q' E'
def slotR (r : R) : Slot := .dat r.1 r.2
def ents : List R → List V → List En
  | r :: rs, v :: vs => (slotR r, some v) :: ents rs vs
  | _, _ => []
def entsO : List R → List V → List En
  | r :: rs, v :: vs => if r.1.own = true then (slotR r, some v) :: entsO rs vs else entsO rs vs
  | _, _ => []
def putB : List R → List D → List R
  | (.bo, d) :: rs, os => match os with
    | o :: os => (.bo, o) :: putB rs os
    | [] => (.bo, d) :: putB rs []
  | r :: rs, os => r :: putB rs os
  | [], _ => []
structure Aft (Z : Addr → Prop) (rs : List R) (vs : List V) (H : Hp) (X : List En) (rs' : List R) (H' : Hp) : Prop where
  rep : RepL Z H' (X ++ entsO rs' vs)
  keep : Keep (OwnL (ents rs vs)) H H'
  grow : ∀ a, OwnL (X ++ entsO rs' vs) a → OwnL (ents rs vs) a ∨ H a = none
def spOf (cl : Str → Value) (S : FSpec) : Sp := fun vs H Q E => vs.length = S.ar ∧ ∃ (Z : Addr → Prop) (rs : List R), rs.length = vs.length ∧ RepL Z H (ents rs vs) ∧ (∀ r ∈ rs, r.1 ≠ .ow) ∧
  S.run rs (fun r outs => ∀ v H', Aft Z rs vs H [(slotR r, some v)] (putB rs outs) H' → Q v H') (fun x outs => ∀ H', Aft Z rs vs H [] (putB rs outs) H' → E (cl x) none H')
def initR (n : Nat) (rs : List R) : Rh := rs.map slotR ++ List.replicate (n - rs.length) .un
def outsOf : List R → Rh → List D
  | (.bo, d) :: rs, s :: ρ => (match s with
    | .dat _ d' => d'
    | _ => d) :: outsOf rs ρ
  | _ :: rs, _ :: ρ => outsOf rs ρ
  | _, _ => []
def edOf (rs : List R) (Q : R → List D → Prop) (E : Xn → List D → Prop) : Ed where
  nx := fun ρ => Q (.sh, .non) (outsOf rs ρ)
  rt := fun r ρ => Q r (outsOf rs ρ)
  bk := fun _ => False
  ct := fun _ => False
  ex := fun x ρ => E x (outsOf rs ρ)
def VC (S : FSpec) (n : Nat) (w : WS) : Prop := ∀ rs Q E, S.run rs Q E → w (initR n rs) (edOf rs Q E)
theorem ents_zip : ∀ (rs : List R) (vs : List V), rs.length = vs.length → (rs.map slotR).zip (vs.map some) = ents rs vs
  | [], [], _ => rfl
  | r :: rs, v :: vs, h => by
    show (slotR r, some v) :: (rs.map slotR).zip (vs.map some) = _
    rw [ents_zip rs vs (by simpa using h)]
    rfl
  | [], _ :: _, h => by simp at h
  | _ :: _, [], h => by simp at h
theorem RepL.uns {Z : Addr → Prop} {H : Hp} {S : List En} (r : RepL Z H S) : ∀ n : Nat, RepL Z H (S ++ List.replicate n ((.un, none) : En))
  | 0 => by simpa using r
  | n + 1 => by
    have q : RepL Z H (((Slot.un, none) : En) :: (S ++ List.replicate n (.un, none))) := (r.uns n).push un_ok fun a => not_own_un
    rw [List.replicate_succ]
    exact q.perm (List.perm_middle).symm
theorem ownL_uns {S : List En} {n : Nat} {a : Addr} : OwnL (S ++ List.replicate n ((.un, none) : En)) a ↔ OwnL S a := by
  rw [OwnL.app]
  constructor
  · rintro (h | ⟨x, hx, o⟩)
    · exact h
    · rw [List.eq_of_mem_replicate hx] at o
      exact (not_own_un o).elim
  · exact .inl
theorem finals : ∀ (rs : List R) (vs : List V) (ρ : Rh) (σ : SV) (ρ' : Rh) (σ' : SV), rs.length = vs.length → (∀ r ∈ rs, r.1 ≠ .ow) → (∀ (i : Nat) (r : R), rs[i]? = some r → ρ[i]? = some (slotR r)) → (∀ (i : Nat) (v : V), vs[i]? = some v → σ[i]? = some (some v)) → ρ'.length = σ'.length → rs.length ≤ ρ'.length → Sta ρ σ ρ' σ' → (entsO (putB rs (outsOf rs ρ')) vs).Sublist (ρ'.zip σ')
  | [], vs, ρ, σ, ρ', σ', hl, _, _, _, _, _, _ => by
    cases vs with
    | nil => exact List.nil_sublist _
    | cons => simp at hl
  | r :: rs, [], _, _, _, _, hl, _, _, _, _, _, _ => by simp at hl
  | r :: rs, v :: vs, ρ, σ, ρ', σ', hl, ho, h1, h2, hl', hle, st => by
    cases ρ' with
    | nil => simp at hle
    | cons s ρ' =>
      cases σ' with
      | nil => simp at hl'
      | cons u σ' =>
        have ih := finals rs vs ρ.tail σ.tail ρ' σ' (by simpa using hl) (fun r h => ho r (List.mem_cons_of_mem _ h)) (fun i r e => by
          have := h1 (i + 1) r (by simpa using e)
          cases ρ with
          | nil => simp at this
          | cons => simpa using this) (fun i v e => by
          have := h2 (i + 1) v (by simpa using e)
          cases σ with
          | nil => simp at this
          | cons => simpa using this) (by simpa using hl') (by simpa using hle) (fun i m d e hm => by
          cases ρ with
          | nil => simp at e
          | cons x ρ =>
            cases σ with
            | nil =>
              have := h2 0 v rfl
              simp at this
            | cons y σ =>
              obtain ⟨d', g1, g2, g3⟩ := st (i + 1) m d (by simpa using e) hm
              exact ⟨d', by simpa using g1, g2, by simpa using g3⟩)
        have e0 := h1 0 r rfl
        have e1 := h2 0 v rfl
        obtain ⟨m, d⟩ := r
        rw [List.zip_cons_cons]
        have own' : ∀ m, m = .bo ∨ m = .ln → ρ[0]? = some (.dat m d) → ∃ d', s = .dat m d' ∧ (m = .ln → d' = d) ∧ u = some v := fun m hm em => by
          obtain ⟨d', g1, g2, g3⟩ := st 0 m d em hm
          refine ⟨d', by simpa using g1, g2, ?_⟩
          rw [e1] at g3
          simpa using g3
        cases m with
        | sh => exact ih.cons _
        | fr => exact ih.cons _
        | ow => exact absurd rfl (ho (.ow, d) List.mem_cons_self)
        | bo =>
          obtain ⟨d', rfl, _, rfl⟩ := own' .bo (.inl rfl) e0
          exact ih.cons_cons _
        | ln =>
          obtain ⟨d', rfl, hd, rfl⟩ := own' .ln (.inr rfl) e0
          cases hd rfl
          exact ih.cons_cons _
theorem body_ok {cl : Str → Value} {S : FSpec} {N : List Str} {w : WS} (mw : MonoS w) (hn : S.ar ≤ N.length) (vc : VC S N.length w) {vs : List V} {H : Hp} {Q : VK} {E : XK} {W : WX} (hW : ∀ x σ' H', E (cl x) none H' → W (cl x) none σ' H') (h : spOf cl S vs H Q E) :
    tSS cl W w { nx := fun _ H' => Q .non H', rt := Q } (L2.start N vs) H := by
  obtain ⟨hvl, Z, rs, hl, rp, ho, q⟩ := h
  have hst : (L2.start N vs).length = N.length := by simp [L2.start]; omega
  have hin : (initR N.length rs).length = N.length := by simp [initR]; omega
  have ez : (initR N.length rs).zip (L2.start N vs) = ents rs vs ++ List.replicate (N.length - vs.length) (.un, none) := by
    unfold initR L2.start
    rw [List.zip_append (by simp [hl]), ents_zip rs vs hl, hl, List.zip_replicate']
  have ow : ∀ a, OwnL ((initR N.length rs).zip (L2.start N vs)) a ↔ OwnL (ents rs vs) a := fun a => by rw [ez]; exact ownL_uns
  have g1 : ∀ (i : Nat) (r : R), rs[i]? = some r → (initR N.length rs)[i]? = some (slotR r) := fun i r e => by
    unfold initR
    rw [List.getElem?_append_left (by have := (List.getElem?_eq_some_iff.mp e).1; simpa using this), List.getElem?_map, e]
    rfl
  have g2 : ∀ (i : Nat) (v : V), vs[i]? = some v → (L2.start N vs)[i]? = some (some v) := fun i v e => by
    unfold L2.start
    rw [List.getElem?_append_left (by have := (List.getElem?_eq_some_iff.mp e).1; simpa using this), List.getElem?_map, e]
    rfl
  have sub : ∀ {X : List En} {ρ' : Rh} {σ' : SV} {H' : Hp}, Nx Z [] (initR N.length rs) (L2.start N vs) H X ρ' σ' H' → Aft Z rs vs H X (putB rs (outsOf rs ρ')) H' := fun {X ρ' σ' H'} n => by
    have sl := finals rs vs _ _ ρ' σ' hl ho g1 g2 n.len (by rw [n.len, n.lens, hst, hl]; omega) n.sta
    refine ⟨n.rep.sub ?_, fun b o q nb => n.keep b o q fun z => nb ((ow b).mp z), fun a z => (n.grow a (OwnL.sub (fun y hy => ?_) z)).imp (ow a).mp id⟩
    · rw [List.append_nil]
      exact sl.append_left X
    · exact (sl.append_left X).subset hy
  refine ⟨Z, [], initR N.length rs, by rw [hin, hst], by rw [ez, List.append_nil]; exact rp.uns _, mw _ _ _ ?_ (vc rs _ _ q)⟩
  refine ⟨fun ρ' z σ' H' n => ?_, fun r ρ' z v σ' H' n => z v H' (sub n), fun _ z => z.elim, fun _ z => z.elim, fun x ρ' z σ' H' n => hW x σ' H' (z H' (sub n))⟩
  exact z .non H' (sub (n.valE dv_non))
end G
end
section
set_option Elab.async false
set_option linter.all false
set_option maxRecDepth 100000
namespace G
open PySem PySem.Spec L2
def takeA (mu : Bool) (a : Ar) (ρ : Rh) : Option (R × Rh) := match a with
  | .loc i => match ρ[i]? with
    | some (.dat .sh d) => some ((.sh, d), ρ)
    | some (.dat .fr d) => some ((.fr, d), ρ)
    | some (.dat .ow d) => some ((if mu then .bo else .ln, d), ρ.set i .un)
    | some (.dat .bo d) => some ((if mu then .bo else .ln, d), ρ.set i .un)
    | some (.dat .ln d) => if mu then none else some ((.ln, d), ρ.set i .un)
    | _ => none
  | .tmp .sh d => some ((.sh, d), ρ)
  | .tmp .ow d => some ((if mu then .bo else .sh, d), ρ)
  | _ => none
def callA : List Bool → List Ar → Rh → Option (List R × Rh)
  | _, [], ρ => some ([], ρ)
  | pm, a :: as, ρ => match takeA (pm.headD false) a ρ with
    | some (r, ρ') => match callA pm.tail as ρ' with
      | some (rs, ρh) => some (r :: rs, ρh)
      | none => none
    | none => none
def nextR (a : Ar) (ρ : Rh) : Rh := match a with
  | .loc i => match ρ[i]? with
    | some (.dat m d) => if m.own = true then ρ.set i .un else ρ
    | _ => ρ
  | _ => ρ
def backA : List Ar → List R → Rh → Rh → Rh
  | a :: as, r :: rs, ρ, ρh => match a with
    | .loc i => match ρ[i]? with
      | some (.dat m _) => if m.own = true then (backA as rs (nextR a ρ) ρh).set i (.dat m r.2) else backA as rs (nextR a ρ) ρh
      | _ => backA as rs (nextR a ρ) ρh
    | _ => backA as rs (nextR a ρ) ρh
  | _, _, _, ρh => ρh
def wCall (S : FSpec) (wa : WA) : WE := fun ρ Q E => wa ρ (fun as ρ1 => match callA S.pm as ρ1 with
  | some (rs, ρh) => rs.length = S.ar ∧ S.run rs (fun r outs => okR r.1 ∧ Q r (backA as (putB rs outs) ρ1 ρh)) (fun x outs => E x (backA as (putB rs outs) ρ1 ρh))
  | none => False) E
def MonoF (S : FSpec) : Prop := ∀ rs (Q Q' : R → List D → Prop) (E E' : Xn → List D → Prop), (∀ r o, Q r o → Q' r o) → (∀ x o, E x o → E' x o) → S.run rs Q E → S.run rs Q' E'
theorem wCall.mono {S : FSpec} {wa : WA} (mf : MonoF S) (ma : MonoG wa) : MonoG (wCall S wa) := fun ρ Q Q' E E' hQ hE h => ma _ _ _ _ _ (fun as ρ1 z => by
  split at z
  · exact ⟨z.1, mf _ _ _ _ _ (fun r o q => ⟨q.1, hQ _ _ q.2⟩) (fun x o q => hE _ _ q) z.2⟩
  · exact z.elim) hE h
theorem take_next {mu : Bool} {a : Ar} {ρ ρ' : Rh} {r : R} (h : takeA mu a ρ = some (r, ρ')) : ρ' = nextR a ρ := by
  unfold takeA at h
  unfold nextR
  cases a with
  | loc i =>
    simp only at h ⊢
    split at h
    · rename_i e; cases h; rw [e]; rfl
    · rename_i e; cases h; rw [e]; rfl
    · rename_i e; cases h; rw [e]; rfl
    · rename_i e; cases h; rw [e]; rfl
    · rename_i e
      split at h
      · cases h
      · cases h; rw [e]; rfl
    · cases h
  | tmp m d => cases m <;> first | (cases h; rfl) | cases h
theorem nextR_len (a : Ar) (ρ : Rh) : (nextR a ρ).length = ρ.length := by
  unfold nextR
  split
  · split
    · split
      · exact List.length_set
      · rfl
    · rfl
  · rfl
section
variable {Z : Addr → Prop} {H : Hp} {σ : SV}
theorem RepL.out1 {T : List En} {ρ : Rh} {i : Nat} {m m' : Mo} {d : D} {v : V} (hl : ρ.length = σ.length) (r : RepL Z H (ρ.zip σ ++ T)) (h : ρ[i]? = some (.dat m d)) (hv : σ[i]? = some (some v)) (hm : m.own = true) (hm' : m'.own = true) : RepL Z H ((ρ.set i .un).zip σ ++ ((.dat m' d, some v) :: T)) := by
  obtain ⟨v', h1, h2, _⟩ := r.at_ hl h
  rw [hv] at h1
  cases h1
  obtain ⟨rest, r1, p1, p2⟩ := r.front h2
  have r2 : RepL Z H (((Slot.dat m' d, some v) : En) :: (rest ++ T)) := by
    have q : RepL Z H (([Slot.dat m d] : Rh).zip [some v] ++ (rest ++ T)) := r1
    exact q.label (ρ := [.dat m d]) (ρ' := [.dat m' d]) ⟨rfl, fun j x y e1 e2 => by
      cases j with
      | zero => simp at e1 e2; subst e1 e2; exact .inr ⟨m, m', d, rfl, rfl, hm, hm'⟩
      | succ j => simp at e1⟩
  have r3 : RepL Z H (((Slot.un, some v) : En) :: ((Slot.dat m' d, some v) :: (rest ++ T))) := r2.push un_ok fun a => not_own_un
  rw [zip_set1 hv]
  refine r3.perm ?_
  refine List.Perm.trans ?_ (((p2 (.un, some v)).symm).append_right _)
  show ((Slot.un, some v) :: (Slot.dat m' d, some v) :: (rest ++ T)).Perm ((Slot.un, some v) :: (rest ++ (Slot.dat m' d, some v) :: T))
  exact (List.perm_middle.symm).cons _
theorem relabel1 {S : List En} {m m' : Mo} {d : D} {v : V} (r : RepL Z H ((.dat m d, some v) :: S)) (hm : m.own = true) (hm' : m'.own = true) : RepL Z H ((.dat m' d, some v) :: S) := by
  have q : RepL Z H (([Slot.dat m d] : Rh).zip [some v] ++ S) := r
  exact q.label (ρ := [.dat m d]) (ρ' := [.dat m' d]) ⟨rfl, fun j x y e1 e2 => by
    cases j with
    | zero => simp at e1 e2; subst e1 e2; exact .inr ⟨m, m', d, rfl, rfl, hm, hm'⟩
    | succ j => simp at e1⟩
theorem args_rep : ∀ (as : List Ar) (pm : List Bool) (ρ : Rh) (vs : List V) (rs : List R) (ρh : Rh) (X1 T : List En), ρ.length = σ.length → RepL Z H (X1 ++ (ρ.zip σ ++ T)) → relA as vs σ X1 → callA pm as ρ = some (rs, ρh) → RepL Z H (ents rs vs ++ (ρh.zip σ ++ T)) ∧ rs.length = vs.length ∧ ρh.length = σ.length ∧ (∀ r ∈ rs, r.1 ≠ .ow) ∧ ∀ a, OwnL (ents rs vs ++ ρh.zip σ) a → OwnL (X1 ++ ρ.zip σ) a := by
  intro as
  induction as with
  | nil =>
    intro pm ρ vs rs ρh X1 T hl r e h
    obtain ⟨rfl, rfl⟩ := e
    cases h
    exact ⟨r, rfl, hl, fun _ h => (nomatch h), fun a z => z⟩
  | cons a as ih =>
    intro pm ρ vs rs ρh X1 T hl r e h
    obtain ⟨v, vr, Xa, X2, rfl, rfl, ea, er⟩ := e
    unfold callA at h
    split at h
    · rename_i r1 ρ' ht
      split at h
      · rename_i rs' ρh' hc
        cases h
        have hn := take_next ht
        -- the head
        have head : RepL Z H (X2 ++ (ρ'.zip σ ++ ((slotR r1, some v) :: T))) ∧ r1.1 ≠ .ow ∧ ∀ a, own (slotR r1, some v) a ∨ OwnL (X2 ++ ρ'.zip σ) a → OwnL (Xa ++ X2 ++ ρ.zip σ) a := by
          have mid : ∀ {A B C : List En} {x : En}, (A ++ (B ++ (x :: C))).Perm (x :: (A ++ (B ++ C))) := fun {A B C x} => by
            have := List.perm_middle (l₁ := A ++ B) (a := x) (l₂ := C)
            simpa [List.append_assoc] using this
          unfold takeA at ht
          cases a with
          | loc i =>
            obtain ⟨es, rfl⟩ := ea
            simp only [List.nil_append] at r ⊢
            have sh : ∀ (m : Mo) (d : D), ρ[i]? = some (.dat m d) → (∀ a ov, ¬ own ((Slot.dat m d, ov) : En) a) → m ≠ .ow → RepL Z H (X2 ++ (ρ.zip σ ++ ((slotR (m, d), some v) :: T))) ∧ m ≠ .ow ∧ ∀ a, own (slotR (m, d), some v) a ∨ OwnL (X2 ++ ρ.zip σ) a → OwnL (X2 ++ ρ.zip σ) a := fun m d em no nm => by
              have hz : (ρ.zip σ)[i]? = some (.dat m d, some v) := List.getElem?_zip_eq_some.mpr ⟨em, es⟩
              have q : RepL Z H (((slotR (m, d), some v) : En) :: (X2 ++ (ρ.zip σ ++ T))) := r.push (r.ok _ (List.mem_append_right _ (List.mem_append_left _ (List.mem_of_getElem? hz)))) fun a => no a _
              exact ⟨q.perm mid.symm, nm, fun a z => z.elim (fun o => (no a _ o).elim) id⟩
            have ow : ∀ (m m' : Mo) (d : D), ρ[i]? = some (.dat m d) → m.own = true → m'.own = true → m' ≠ .ow → RepL Z H (X2 ++ ((ρ.set i .un).zip σ ++ ((slotR (m', d), some v) :: T))) ∧ m' ≠ .ow ∧ ∀ a, own (slotR (m', d), some v) a ∨ OwnL (X2 ++ (ρ.set i .un).zip σ) a → OwnL (X2 ++ ρ.zip σ) a := fun m m' d em hm hm' nm => by
              have r2 : RepL Z H (ρ.zip σ ++ (X2 ++ T)) := r.perm (by
                rw [← List.append_assoc, ← List.append_assoc]
                exact (List.perm_append_comm (l₁ := X2) (l₂ := ρ.zip σ)).append_right T)
              have r3 := r2.out1 hl em es hm hm'
              refine ⟨r3.perm ?_, nm, fun a z => ?_⟩
              · refine List.Perm.trans ?_ (mid (A := X2) (B := (ρ.set i .un).zip σ) (C := T)).symm
                refine (List.perm_middle (l₁ := (ρ.set i .un).zip σ)).trans (List.Perm.cons _ ?_)
                rw [← List.append_assoc, ← List.append_assoc]
                exact (List.perm_append_comm (l₁ := (ρ.set i .un).zip σ) (l₂ := X2)).append_right T
              · have hz : (ρ.zip σ)[i]? = some (.dat m d, some v) := List.getElem?_zip_eq_some.mpr ⟨em, es⟩
                rcases z with z | z
                · obtain ⟨_, _, e1, _, e3⟩ := z
                  exact OwnL.app.mpr (.inr ⟨_, List.mem_of_getElem? hz, m, d, rfl, hm, e3⟩)
                · rcases OwnL.app.mp z with z | z
                  · exact OwnL.app.mpr (.inl z)
                  · rw [zip_set1 es] at z
                    obtain ⟨rest, p1, p2⟩ := set_perm hz
                    rcases OwnL.cons.mp ((OwnL.perm (p2 _)).mp z) with z | z
                    · exact (not_own_un z).elim
                    · exact OwnL.app.mpr (.inr ((OwnL.perm p1).mpr (OwnL.cons.mpr (.inr z))))
            simp only at ht
            split at ht
            · rename_i d em; cases ht; exact sh .sh d em (fun a ov => not_own_sh) (by decide)
            · rename_i d em; cases ht; exact sh .fr d em (fun a ov => not_own_fr) (by decide)
            · rename_i d em; cases ht
              cases pm.headD false with
              | true => exact ow .ow .bo d em rfl rfl (by decide)
              | false => exact ow .ow .ln d em rfl rfl (by decide)
            · rename_i d em; cases ht
              cases pm.headD false with
              | true => exact ow .bo .bo d em rfl rfl (by decide)
              | false => exact ow .bo .ln d em rfl rfl (by decide)
            · rename_i d em
              split at ht
              · cases ht
              · cases ht; exact ow .ln .ln d em rfl rfl (by decide)
            · cases ht
          | tmp m d =>
            have ea : Xa = [(.dat m d, some v)] := ea
            subst ea
            have r' : RepL Z H (((Slot.dat m d, some v) : En) :: (X2 ++ (ρ.zip σ ++ T))) := by
              rw [List.append_assoc] at r; exact r
            cases m with
            | sh =>
              cases ht
              exact ⟨r'.perm mid.symm, nofun, fun a z => z.elim (fun o => (not_own_sh o).elim) fun q => OwnL.cons.mpr (.inr q)⟩
            | ow =>
              simp only at ht
              cases hb : pm.headD false with
              | true =>
                rw [hb] at ht
                cases ht
                refine ⟨(relabel1 r' (m' := .bo) rfl rfl).perm mid.symm, nofun, fun a z => ?_⟩
                rcases z with z | z
                · obtain ⟨_, _, _, _, e3⟩ := z
                  exact OwnL.cons.mpr (.inl ⟨.ow, d, rfl, rfl, e3⟩)
                · exact OwnL.cons.mpr (.inr z)
              | false =>
                rw [hb] at ht
                cases ht
                have dv := r'.temp (.inr rfl)
                have q : RepL Z H (((Slot.dat .sh d, some v) : En) :: (X2 ++ (ρ.zip σ ++ T))) := (r'.drop (P := [_])).push (fun m' d' e => by cases e; exact ⟨v, rfl, dv⟩) fun a => not_own_sh
                exact ⟨q.perm mid.symm, nofun, fun a z => z.elim (fun o => (not_own_sh o).elim) fun q => OwnL.cons.mpr (.inr q)⟩
            | _ => cases ht
        obtain ⟨rh, nm, oh⟩ := head
        obtain ⟨r2, l1, l2, n2, o2⟩ := ih pm.tail ρ' vr rs' ρh X2 ((slotR r1, some v) :: T) (by rw [hn, nextR_len]; exact hl) rh er hc
        refine ⟨?_, by simp [l1], l2, fun r hr => ?_, fun a z => ?_⟩
        · refine r2.perm ?_
          have := List.perm_middle (l₁ := ents rs' vr ++ ρh.zip σ) (a := ((slotR r1, some v) : En)) (l₂ := T)
          simpa [ents, List.append_assoc] using this
        · rcases List.mem_cons.mp hr with rfl | hr
          · exact nm
          · exact n2 r hr
        · rcases OwnL.cons.mp z with z | z
          · exact oh a (.inl z)
          · exact oh a (.inr (o2 a z))
      · cases h
    · cases h
theorem RepL.in1 {T X : List En} {ρ : Rh} {i : Nat} {m m' : Mo} {d : D} {v : V} (hl : ρ.length = σ.length) (r : RepL Z H (X ++ ((.dat m' d, some v) :: (ρ.zip σ ++ T)))) (hv : σ[i]? = some (some v)) (hm : m.own = true) (hm' : m'.own = true) : RepL Z H (X ++ ((ρ.set i (.dat m d)).zip σ ++ T)) ∧ ∀ a, OwnL ((ρ.set i (.dat m d)).zip σ) a → own ((Slot.dat m' d, some v) : En) a ∨ OwnL (ρ.zip σ) a := by
  have hi : i < ρ.length := by rw [hl]; exact (List.getElem?_eq_some_iff.mp hv).1
  obtain ⟨ov, e1, e2⟩ := zip_get hl (show ρ[i]? = some ρ[i] by simp [hi])
  obtain ⟨rest, p1, p2⟩ := set_perm e2
  have r2 : RepL Z H (((Slot.dat m' d, some v) : En) :: (X ++ (ρ.zip σ ++ T))) := r.perm (List.perm_middle)
  have r3 := relabel1 r2 (m' := m) hm' hm
  rw [zip_set1 hv]
  constructor
  · have r4 : RepL Z H ((ρ[i], ov) :: (X ++ ((Slot.dat m d, some v) :: rest ++ T))) := r3.perm (by
      refine ((((p1.append_right T).append_left X)).cons _).trans ?_
      show (((Slot.dat m d, some v) : En) :: (X ++ ((ρ[i], ov) :: (rest ++ T)))).Perm ((ρ[i], ov) :: (X ++ ((Slot.dat m d, some v) :: (rest ++ T))))
      refine (List.Perm.cons _ (List.perm_middle)).trans ?_
      refine (List.Perm.swap _ _ _).trans ?_
      exact List.Perm.cons _ (List.perm_middle).symm)
    exact (r4.drop (P := [_])).perm ((((p2 _).symm).append_right T).append_left X)
  · intro a z
    rcases OwnL.cons.mp ((OwnL.perm (p2 _)).mp z) with z | z
    · obtain ⟨_, _, _, _, e3⟩ := z
      exact .inl ⟨m', d, rfl, hm', e3⟩
    · exact .inr ((OwnL.perm p1).mpr (OwnL.cons.mpr (.inr z)))
def Shp : List R → List R → Prop
  | [], [] => True
  | r :: rs, s :: ss => (r.1 = s.1 ∧ (r.1 = .ln → s.2 = r.2)) ∧ Shp rs ss
  | _, _ => False
theorem shp_putB : ∀ (rs : List R) (os : List D), Shp rs (putB rs os)
  | [], _ => by unfold putB Shp; exact True.intro
  | (m, d) :: rs, os => by
    cases m with
    | bo =>
      cases os with
      | nil => exact ⟨⟨rfl, fun z => nomatch z⟩, shp_putB rs []⟩
      | cons o os => exact ⟨⟨rfl, fun z => nomatch z⟩, shp_putB rs os⟩
    | sh => exact ⟨⟨rfl, fun _ => rfl⟩, shp_putB rs os⟩
    | ow => exact ⟨⟨rfl, fun _ => rfl⟩, shp_putB rs os⟩
    | ln => exact ⟨⟨rfl, fun _ => rfl⟩, shp_putB rs os⟩
    | fr => exact ⟨⟨rfl, fun _ => rfl⟩, shp_putB rs os⟩
theorem args_back : ∀ (as : List Ar) (pm : List Bool) (ρ : Rh) (vs : List V) (rs rs' : List R) (ρh : Rh) (X0 X T : List En), ρ.length = σ.length → relA as vs σ X0 → callA pm as ρ = some (rs, ρh) → ρh.length = σ.length → Shp rs rs' → RepL Z H (X ++ (entsO rs' vs ++ (ρh.zip σ ++ T))) →
    RepL Z H (X ++ ((backA as rs' ρ ρh).zip σ ++ T)) ∧ (backA as rs' ρ ρh).length = σ.length ∧ (∀ a, OwnL ((backA as rs' ρ ρh).zip σ) a → OwnL (entsO rs' vs ++ ρh.zip σ) a) ∧ Sta ρ σ (backA as rs' ρ ρh) σ := by
  intro as
  induction as with
  | nil =>
    intro pm ρ vs rs rs' ρh X0 X T hl e h hh sp r
    obtain ⟨rfl, rfl⟩ := e
    cases h
    cases rs' with
    | nil => exact ⟨r, hh, fun a z => z, .refl⟩
    | cons => exact sp.elim
  | cons a as ih =>
    intro pm ρ vs rs rs' ρh X0 X T hl e h hh sp r
    obtain ⟨v, vr, Xa, X2, rfl, rfl, ea, er⟩ := e
    unfold callA at h
    split at h
    · rename_i r1 ρ' ht
      split at h
      · rename_i rs2 ρh' hc
        cases h
        have hn := take_next ht
        subst hn
        cases rs' with
        | nil => exact sp.elim
        | cons s1 rs' =>
          obtain ⟨⟨sm, sd⟩, sp⟩ := sp
          have hl' : (nextR a ρ).length = σ.length := by rw [nextR_len]; exact hl
          -- a head that owns nothing, or none of the slots
          have skip : nextR a ρ = ρ → backA (a :: as) (s1 :: rs') ρ ρh = backA as rs' (nextR a ρ) ρh → (entsO rs' vr).Sublist (entsO (s1 :: rs') (v :: vr)) → (RepL Z H (X ++ ((backA (a :: as) (s1 :: rs') ρ ρh).zip σ ++ T)) ∧ (backA (a :: as) (s1 :: rs') ρ ρh).length = σ.length ∧ (∀ c, OwnL ((backA (a :: as) (s1 :: rs') ρ ρh).zip σ) c → OwnL (entsO (s1 :: rs') (v :: vr) ++ ρh.zip σ) c) ∧ Sta ρ σ (backA (a :: as) (s1 :: rs') ρ ρh) σ) := fun en eb sl => by
            have r2 : RepL Z H (X ++ (entsO rs' vr ++ (ρh.zip σ ++ T))) := r.sub ((sl.append_right _).append_left X)
            obtain ⟨g1, g2, g3, g4⟩ := ih pm.tail (nextR a ρ) vr rs2 rs' ρh X2 X T hl' er hc hh sp r2
            rw [eb]
            exact ⟨g1, g2, fun a z => OwnL.sub (fun x hx => (sl.append_right _).subset hx) (g3 a z), by rw [en] at g4; rw [en]; exact g4⟩
          have sub1 : (entsO rs' vr).Sublist (entsO (s1 :: rs') (v :: vr)) := by
            show (entsO rs' vr).Sublist (if s1.1.own = true then (slotR s1, some v) :: entsO rs' vr else entsO rs' vr)
            split
            · exact List.sublist_cons_self _ _
            · exact List.Sublist.refl _
          cases a with
          | tmp m d => exact skip rfl rfl sub1
          | loc i =>
            obtain ⟨es, rfl⟩ := ea
            cases ei : ρ[i]? with
            | none => exact skip (by unfold nextR; simp only [ei]) (by simp only [backA, ei]) sub1
            | some s =>
              cases s with
              | un => exact skip (by unfold nextR; simp only [ei]) (by simp only [backA, ei]) sub1
              | dat m d =>
                by_cases hm : m.own = true
                · have en : nextR (.loc i) ρ = ρ.set i .un := by unfold nextR; simp only [ei, hm, if_true]
                  have eb : backA (.loc i :: as) (s1 :: rs') ρ ρh = (backA as rs' (nextR (.loc i) ρ) ρh).set i (.dat m s1.2) := by simp only [backA, ei, hm, if_true]
                  have r1own : r1.1.own = true ∧ (m = .ln → r1 = (.ln, d)) := by
                    have e1 := congrArg (fun o => o.map Prod.fst) ht
                    unfold takeA at e1
                    simp only [ei] at e1
                    cases m with
                    | ow =>
                      have e2 : _ = r1 := Option.some.inj e1
                      rw [← e2]
                      cases pm.headD false <;> exact ⟨rfl, nofun⟩
                    | bo =>
                      have e2 : _ = r1 := Option.some.inj e1
                      rw [← e2]
                      cases pm.headD false <;> exact ⟨rfl, nofun⟩
                    | ln =>
                      simp only at e1
                      split at e1
                      · cases e1
                      · have e2 : _ = r1 := Option.some.inj e1
                        rw [← e2]
                        exact ⟨rfl, fun _ => rfl⟩
                    | sh => cases hm
                    | fr => cases hm
                  have so : s1.1.own = true := by rw [← sm]; exact r1own.1
                  have eE : entsO (s1 :: rs') (v :: vr) = (slotR s1, some v) :: entsO rs' vr := by
                    show (if s1.1.own = true then _ else _) = _
                    rw [if_pos so]
                  rw [eE] at r
                  have r2 : RepL Z H ((X ++ [(slotR s1, some v)]) ++ (entsO rs' vr ++ (ρh.zip σ ++ T))) := by
                    simpa [List.append_assoc] using r
                  obtain ⟨g1, g2, g3, g4⟩ := ih pm.tail (nextR (.loc i) ρ) vr rs2 rs' ρh X2 (X ++ [(slotR s1, some v)]) T hl' er hc hh sp r2
                  have g1' : RepL Z H (X ++ ((.dat s1.1 s1.2, some v) :: ((backA as rs' (nextR (.loc i) ρ) ρh).zip σ ++ T))) := by
                    have e : ((X ++ [(slotR s1, some v)]) ++ ((backA as rs' (nextR (.loc i) ρ) ρh).zip σ ++ T) : List En) = X ++ ((.dat s1.1 s1.2, some v) :: ((backA as rs' (nextR (.loc i) ρ) ρh).zip σ ++ T)) := by simp [List.append_assoc, slotR]
                    rw [e] at g1; exact g1
                  obtain ⟨q1, q2⟩ := RepL.in1 (m := m) g2 g1' es hm so
                  rw [eb]
                  refine ⟨q1, by rw [List.length_set]; exact g2, fun a z => ?_, fun j mm dd ej hmm => ?_⟩
                  · rcases q2 a z with z | z
                    · rw [eE]; exact OwnL.cons.mpr (.inl z)
                    · rw [eE]; exact OwnL.cons.mpr (.inr (g3 a z))
                  · by_cases hj : i = j
                    · subst hj
                      rw [ei] at ej
                      cases ej
                      refine ⟨s1.2, List.getElem?_set_self (by rw [g2]; exact (List.getElem?_eq_some_iff.mp es).1), fun z => ?_, rfl⟩
                      have := r1own.2 z
                      rw [this] at sd
                      exact sd rfl
                    · obtain ⟨d', k1, k2, k3⟩ := g4 j mm dd (by rw [en, List.getElem?_set_ne hj]; exact ej) hmm
                      exact ⟨d', by rw [List.getElem?_set_ne hj]; exact k1, k2, k3⟩
                · exact skip (by unfold nextR; simp only [ei, hm]; rfl) (by simp only [backA, ei, hm]; rfl) sub1
      · cases h
    · cases h
end
theorem RepL.part {Z : Addr → Prop} {H : Hp} {P S : List En} (r : RepL Z H (P ++ S)) : RepL (fun a => Z a ∨ OwnL S a) H P where
  ok := fun x hx => (r.ok x (List.mem_append_left _ hx)).off (fun b z => .inl (by
    rcases z with (z | z) | z
    · exact .inl z
    · exact .inr (OwnL.app.mpr (.inr z))
    · exact .inr (OwnL.app.mpr (.inl z)))) fun a o => .inr ⟨x, hx, o⟩
  out := fun a z => by
    rintro (q | q)
    · exact r.out a (OwnL.app.mpr (.inl z)) q
    · exact r.cross z q
  dis := (List.pairwise_append.mp r.dis).1
  zt := fun a z => by
    rcases z with z | z
    · exact r.zt a z
    · exact r.trk (OwnL.app.mpr (.inr z))
theorem callI {cl : Str → Value} {W : WX} {S : FSpec} {wa : WA} (mf : MonoF S) (ma : MonoG wa) : ∀ σ H Q, tE cl W (wCall S wa) σ H Q → tA cl W wa σ H (fun vs H1 => spOf cl S vs H1 Q (fun c d H' => W c d σ H')) := fun σ H Q q => by
  obtain ⟨Z, T, ρ, hl, rp, q⟩ := q
  refine ⟨Z, T, ρ, hl, rp, ma _ _ _ _ _ (fun as ρ1 q vs X1 H1 er n1 => ?_) (fun _ _ z => z) q⟩
  split at q
  · rename_i rs ρh hc
    obtain ⟨r1, l1, l2, no, o1⟩ := args_rep as S.pm ρ1 vs rs ρh X1 T n1.len n1.rep er hc
    refine ⟨l1.symm.trans q.1, fun a => Z a ∨ OwnL (ρh.zip σ ++ T) a, rs, l1, r1.part, no, ?_⟩
    have fin : ∀ {outs : List D} {X : List En} {H' : Hp}, Aft (fun a => Z a ∨ OwnL (ρh.zip σ ++ T) a) rs vs H1 X (putB rs outs) H' → Nx Z T ρ σ H X (backA as (putB rs outs) ρ1 ρh) σ H' := fun {outs X H'} a => by
      have j := RepL.join (P := ents rs vs) (P' := X ++ entsO (putB rs outs) vs) (S := ρh.zip σ ++ T) r1 a.rep a.keep a.grow
      rw [List.append_assoc] at j
      obtain ⟨g1, g2, g3, g4⟩ := args_back as S.pm ρ1 vs rs (putB rs outs) ρh X1 X T n1.len er hc l2 (shp_putB rs outs) j
      have hP : ∀ b, OwnL (ents rs vs) b → OwnL (ρ.zip σ) b ∨ H b = none := fun b z => by
        rcases OwnL.app.mp (o1 b (OwnL.app.mpr (.inl z))) with z | z
        · exact n1.grow b (OwnL.app.mpr (.inl z))
        · exact n1.grow b (OwnL.app.mpr (.inr z))
      refine ⟨g2, rfl, g1, n1.keep.trans a.keep hP, fun b z => ?_, n1.sta.trans g4⟩
      have up : (OwnL (ents rs vs) b ∨ H1 b = none) → OwnL (ρ.zip σ) b ∨ H b = none := fun z => by
        rcases z with z | z
        · exact hP b z
        · exact back n1.keep z
      rcases OwnL.app.mp z with z | z
      · exact up (a.grow b (OwnL.app.mpr (.inl z)))
      · rcases OwnL.app.mp (g3 b z) with z | z
        · exact up (a.grow b (OwnL.app.mpr (.inr z)))
        · rcases OwnL.app.mp (o1 b (OwnL.app.mpr (.inr z))) with z | z
          · exact n1.grow b (OwnL.app.mpr (.inl z))
          · exact n1.grow b (OwnL.app.mpr (.inr z))
    exact mf _ _ _ _ _ (fun r outs q v H' a => q.2 v _ H' rfl (fin a)) (fun x outs q H' a => q H' (fin a)) q.2
  · exact q.elim
end G
end
section
set_option Elab.async false
set_option linter.all false
set_option maxRecDepth 100000
namespace G
open PySem PySem.Spec PyProof.Rows L2
structure FnG (P : Program) (w : World) (K : PySem.W.Frag) (mg : Str → Option Value) (base : Heap) (C : CXT) (k : Nat) (f : Addr) (fd : FuncData) (ps : List Str) (sp : Sp) : Prop where
  len : ∀ vs H Q E, sp vs H Q E → vs.length = ps.length
  run : ∀ (A : Around) (outer : List Env) (s : Shared) (H : Hp) (args : Args) (us : List Value) (vs : List V) (Q : VK) (E : XK), Room k A → A.guards = some [] → Env0 P w K mg base A outer s H → BindsTo s fd args (ps.zip us) → Vals vs us → sp vs H Q E →
    codeAny (model P w) A (.call (.ref f) args) (CR C outer P w H s Q E) s
theorem FnG.mono {P : Program} {w : World} {K : PySem.W.Frag} {mg : Str → Option Value} {base : Heap} {C : CXT} {j k : Nat} {f : Addr} {fd : FuncData} {ps : List Str} {sp : Sp} (F : FnG P w K mg base C j f fd ps sp) (h : j ≤ k) :
    FnG P w K mg base C k f fd ps sp := ⟨F.len, fun A outer s H args us vs Q E hr => F.run A outer s H args us vs Q E (hr.mono h)⟩
theorem fnG_of {C : CXT} {P : Program} {w : World} {K : PySem.W.Frag} {mg : Str → Option Value} {base : Heap} {k : Nat} {f : Addr} {x qual : Str} {params : Arguments} {body : List Stmt} {scope : Scope} {dvs : List V} {kws : List (Str × V)} {fd : FuncData}
    {N ps : List Str} {sp : Sp} (F : FunD K x qual params body scope dvs kws f fd) (S : FnScope N ps scope)
    (len : ∀ vs H Q E, sp vs H Q E → vs.length = ps.length)
    (hbody : ∀ (cdv : Value) (A : Around) (outer : List Env) (s : Shared) (H : Hp) (vs : List V) (Q : VK) (E : XK), Room k (A.deeper (envOfC qual scope s.heap.objs.size f cdv)) → A.guards = some [] → sp vs H Q E →
      ∃ t, PSs (cxOf C P w K mg base N qual scope f cdv A outer s H E) body t ∧ t { nx := fun _ H' => Q .non H', rt := Q } (L2.start N vs) H) :
    FnG P w K mg base C (k + 1) f fd ps sp := by
  obtain ⟨oc, od, dV, kV, doc, pm, an, cdv, ct, osl, rfl, lk, hcd, _, _⟩ := F.ex
  refine ⟨len, fun A outer s H args us vs Q E hr hgd e0 hb r hsp => ?_⟩
  have hl := len _ _ _ _ hsp
  have KX : K.In s.heap := e0.mod.kin.keeps fun b o e => (e0.bs b o e).1
  have lim : s.heap.NoLimit := e0.mod.nolimit.keeps fun b o e => (e0.bs b o e).1
  have hkind : ∀ y ∈ ps.zip us, scope.names.lookup y.1 = some .local ∨ (scope.names.lookup y.1 = some .cell ∧ ((cellsFrom (s.heap.objs.size + 1) scope.names []).lookup y.1).isSome = true) := fun ⟨n, v⟩ hy => by
    rcases S.par n (List.of_mem_zip hy).1 with q | q
    · exact .inl q
    · exact .inr ⟨q, PySem.W.cellsFrom_some _ _ _ (.inl q)⟩
  refine codeAny_call_function hr.depth (KX _ _ lk) rfl S.co S.gen rfl (PySem.W.codeRec_of KX hcd) (hb _ _ _ _ ?_)
  refine wpAny_newFunctionEnv_cells S.kind hkind fun env he s1 x => ?_
  subst he
  refine ⟨lim.keeps x.toInCall.keep, codeAny_func ?_⟩
  obtain ⟨t, ht, hq⟩ := hbody cdv A outer s H vs Q E (hr.deeper _) hgd hsp
  have I : Inv (cxOf C P w K mg base N qual scope f cdv A outer s H E) [] (L2.start N vs) H s1 := inv_start S hr.hd e0 hl r x
  refine wpAny_mono (ht.run [] s1 (L2.start N vs) H _ I hq) (fun fl s' hs => ?_) fun e s' hs => hs
  have fin : ∀ {σ' : SV} {H' : Hp} {v : V} {u : Value}, Inv (cxOf C P w K mg base N qual scope f cdv A outer s H E) [] σ' H' s' → RelV v u → Q v H' → CE outer P w H s Q u s' :=
    fun {σ' H' v u} J rv q => ⟨v, H', J.os, J.bare, J.base, J.hok, rv, q⟩
  cases fl with
  | ret u =>
    obtain ⟨v, σ', H', J, rv, q⟩ := hs
    exact fin J rv q
  | next =>
    obtain ⟨σ', H', J, q⟩ := hs
    exact fin (v := V.non) (u := Value.none) J rfl q
  | brk =>
    obtain ⟨_, _, _, q⟩ := hs
    exact False.elim q
  | cont =>
    obtain ⟨_, _, _, q⟩ := hs
    exact False.elim q
section
variable {X : Cx} {C : CXT} {k : Nat} {f : Addr} {fd : FuncData} {ps : List Str} {sp : Sp} {E : SV → XK} {x : Str} {p pos : Pos} {e : Expr} {es : List Expr} {t : TA}
theorem run_fnG {pins : List (Addr × Obj)} {σ : SV} {H : Hp} {s : Shared} {Q : VK} {us : List Value} {vs : List V} {args : Args} (F : FnG X.prog X.w X.K X.mg X.base C k f fd ps sp) (hr : Room k X.A) (hgd : X.A.guards = some []) (hx : PassesAt C X σ (E σ))
    (I : Inv X pins σ H s) (hb : us.length = ps.length → BindsTo s fd args (ps.zip us)) (r : Vals vs us) (h : sp vs H Q (E σ)) : wpAny (model X.prog X.w) X.A (PySem.call (.ref f) args.pos args.kw) (EP X pins σ Q) X.xe s := by
  have hl : us.length = ps.length := by rw [← r.length]; exact F.len _ _ _ _ h
  refine wpAny_call (codeAny_mono (F.run X.A X.stack s H args us vs Q (E σ) hr hgd I.env0 (hb hl) r h) fun r s' hq => ?_)
  cases r with
  | error e => exact hx pins H s e s' I hq
  | ok fl =>
    cases fl with
    | ret u => exact I.after hq
    | next => exact False.elim hq
    | brk => exact False.elim hq
    | cont => exact False.elim hq
def tCallS (sp : Sp) (E : SV → XK) (t : TA) : TE := fun σ H Q => t σ H fun vs H1 => sp vs H1 Q (E σ)
theorem pe_callG1 (F : FnG X.prog X.w X.K X.mg X.base C k f fd ps sp) (hr : Room k X.A) (hgd : X.A.guards = some []) (hg : Gl X x) (hm : X.mg x = some (.ref f)) (hk : PySem.W.keepIn X.K (.ref f) = true) (hb : Binds X.K fd ps []) (hx : ∀ σ, PassesAt C X σ (E σ))
    (ha : PA X (e :: es) t) (hdb : (x == ("__debug__" : Str)) = false) (he : starEach (e :: es) X.env = (false, eval e X.env) :: starEach es X.env) (hpl : (backTo pos (starEach es X.env)).any (·.1) = false) :
    PE X (.Call (.Name x p) (e :: es) [] pos) (tCallS sp E t) := by
  refine ⟨fun pins s σ H Q I h => ?_⟩
  refine wpAny_Call_Name_kw (ld_glob I hg hm ?_ hdb)
  refine PySem.W.callWith_K (h₀ := X.base) I.ok.mod.kin hk (thn (ha.run pos pins s σ H _ I h) fun us s1 ⟨vs, H1, I1, r, q⟩ => ⟨I1.kIn, ?_⟩) he hpl
  exact run_fnG (args := ⟨us, []⟩) F hr hgd (hx σ) I1 (fun hl => by
    have b := hb s1 us I1.kIn (by rw [List.append_nil]; exact hl)
    rw [List.append_nil] at b
    exact b) r q
theorem pe_callG0 (F : FnG X.prog X.w X.K X.mg X.base C k f fd ps sp) (hr : Room k X.A) (hgd : X.A.guards = some []) (hg : Gl X x) (hm : X.mg x = some (.ref f)) (hk : PySem.W.keepIn X.K (.ref f) = true) (hb : Binds X.K fd ps []) (hx : ∀ σ, PassesAt C X σ (E σ))
    (hdb : (x == ("__debug__" : Str)) = false) :
    PE X (.Call (.Name x p) [] [] pos) (tCallS sp E tNil) := by
  refine ⟨fun pins s σ H Q I h => ?_⟩
  refine wpAny_Call_Name_kw (ld_glob I hg hm ?_ hdb)
  refine PySem.W.callWith_K0 I.kIn hk ?_
  exact run_fnG (args := ⟨[], []⟩) (us := []) F hr hgd (hx σ) I (fun hl => by
    have b := hb s [] I.kIn (by rw [List.append_nil]; exact hl)
    rw [List.append_nil] at b
    exact b) .nil h
def KRev (K : PySem.W.Frag) (fd : FuncData) (ps ks : List Str) : Prop := ∀ (s : Shared) (ws : List Value), K.In s.heap → ws.length = ps.length → BindsTo s fd ⟨[], ks.zip ws⟩ (ps.zip ws.reverse)
theorem vals_rev : ∀ {vs : List V} {us : List Value}, Vals vs us → Vals vs.reverse us.reverse
  | _, _, .nil => .nil
  | _, _, .cons h r => by
    rw [List.reverse_cons, List.reverse_cons]
    exact (vals_rev r).append (.cons h .nil)
theorem pe_callGK {ks : List Str} {kws : List Keyword} (F : FnG X.prog X.w X.K X.mg X.base C k f fd ps sp) (hr : Room k X.A) (hgd : X.A.guards = some []) (hg : Gl X x) (hm : X.mg x = some (.ref f)) (hk : PySem.W.keepIn X.K (.ref f) = true) (hb : KRev X.K fd ps ks) (hx : ∀ σ, PassesAt C X σ (E σ))
    (hkw : PK X kws t) (hall : (backToKw pos (keywordEach kws X.env)).all (·.1.isSome) = true) (hks : (backToKw pos (keywordEach kws X.env)).filterMap (·.1) = ks)
    (hdb : (x == ("__debug__" : Str)) = false) (hpl : (backToKw pos (keywordEach kws X.env)).any (·.1.isNone) = false) :
    PE X (.Call (.Name x p) [] kws pos) (tCallS sp E (fun σ H Q => t σ H fun vs H1 => Q vs.reverse H1)) := by
  refine ⟨fun pins s σ H Q I h => ?_⟩
  refine wpAny_Call_Name_kw (ld_glob I hg hm ?_ hdb)
  refine PySem.W.callWith_KW0 (h₀ := X.base) I.ok.mod.kin hk hall ?_ hpl
  refine thn (hkw.run pos pins s σ H _ I h) fun ws s2 ⟨zs, H2, I2, rz, q2⟩ => ⟨I2.kIn, ?_⟩
  rw [hks]
  exact run_fnG (args := ⟨[], ks.zip ws⟩) (us := ws.reverse) F hr hgd (hx σ) I2 (fun hl => hb s2 ws I2.kIn (by rw [← hl, List.length_reverse])) (vals_rev rz) q2
end
def klInts : List Value → Option (List Int)
  | [] => some []
  | .int i _ :: r => match klInts r with
    | some l => some (i :: l)
    | none => none
  | _ => none
def isLstTy : Value → Bool
  | .type t => t == "list"
  | _ => false
def seqOf : Data → Option (List Value)
  | .seq its _ => some its.toList
  | _ => none
def knownL (K : PySem.W.Frag) (a : Addr) : Option (List Int) := match K.lookup a with
  | some o => if isLstTy o.cls && o.dict.isNone then (match seqOf o.data with
    | some l => if l.length ≤ sizeLine then klInts l else none
    | none => none) else none
  | none => none
theorem klInts_vals : ∀ {us : List Value} {ns : List Int}, klInts us = some ns → Vals (ns.map V.int) us
  | [], _, h => by cases h; exact .nil
  | .int i t :: r, ns, h => by
    have h : (match klInts r with
      | some l => some (i :: l)
      | none => none) = some ns := h
    split at h
    · rename_i l e
      cases h
      exact .cons ⟨t, rfl⟩ (klInts_vals e)
    · cases h
  | .none :: _, _, h => by cases h
  | .bool _ :: _, _, h => by cases h
  | .float _ _ :: _, _, h => by cases h
  | .str _ _ :: _, _, h => by cases h
  | .bytes _ _ :: _, _, h => by cases h
  | .type _ :: _, _, h => by cases h
  | .builtin _ :: _, _, h => by cases h
  | .ref _ :: _, _, h => by cases h
theorem knownL_sq {K : PySem.W.Frag} {a : Addr} {ns : List Int} (h : knownL K a = some ns) (H : Hp) : SqL K H a (ns.map V.int) := by
  unfold knownL at h
  split at h
  · rename_i o e
    split at h
    · rename_i q
      rw [Bool.and_eq_true] at q
      split at h
      · rename_i l el
        split at h
        · rename_i hz
          obtain ⟨oc, od, dt, osl⟩ := o
          have q1 : isLstTy oc = true := q.1
          have q2 : od = none := by simpa using q.2
          subst q2
          cases oc with
          | type t =>
            have : t = "list" := by simpa [isLstTy] using q1
            subst this
            cases dt with
            | seq its n =>
              cases el
              exact .inr ⟨_, its, n, e, rfl, rfl, rfl, by simpa using hz, klInts_vals h⟩
            | _ => cases el
          | _ => cases q1
        · cases h
      · cases h
    · cases h
  · cases h
theorem klInts_of : ∀ {ns : List Int} {us : List Value}, Vals (ns.map V.int) us → klInts us = some ns
  | [], us, h => by cases h; rfl
  | n :: ns, us, h => by
    cases h with
    | cons h r =>
      obtain ⟨t, rfl⟩ := h
      show (match klInts _ with
        | some l => some (n :: l)
        | none => none) = _
      rw [klInts_of r]
def Scr (kl : Addr → Option (List Int)) (ns : List Int) (r : R) : Prop := r = (.fr, .lst (ns.map D.int)) ∨ ∃ a, r = (.sh, .obj a) ∧ kl a = some ns
theorem dvs_ints {H : Hp} {O : Addr → Prop} : ∀ ns : List Int, DVs H O (ns.map D.int) (ns.map V.int)
  | [] => by unfold DVs; rfl
  | n :: ns => by
    show DVs H O (D.int n :: ns.map D.int) _
    unfold DVs
    exact ⟨_, _, rfl, by unfold DV; rfl, dvs_ints ns⟩
theorem scr_of {K : PySem.W.Frag} {H : Hp} {a : Addr} {ns : List Int} (hO : Only H) (hS : SqL K H a (ns.map V.int)) : ∃ r, Scr (knownL K) ns r ∧ RepL (fun _ => False) H [(slotR r, some (.ref a))] := by
  have fin : ∀ {m : Mo} {d : D}, m.own = false → Val H (fun _ => False) m d (.ref a) → RepL (fun _ => False) H [((.dat m d, some (.ref a)) : En)] := fun {m d} hm hv => by
    have no : ∀ b, ¬ OwnL [((.dat m d, some (.ref a)) : En)] b := fun b ⟨x, hx, o⟩ => by
      rw [List.mem_singleton] at hx
      subst hx
      obtain ⟨_, _, e, h, _⟩ := o
      cases e
      rw [hm] at h; cases h
    refine ⟨fun x hx => ?_, fun b z => (no b z).elim, List.pairwise_singleton _ _, fun b z => z.elim⟩
    rw [List.mem_singleton] at hx
    subst hx
    intro m' d' e
    cases e
    have e : (fun b => False ∨ OwnL [((.dat m d, some (.ref a)) : En)] b) = fun _ => False := by
      funext b
      exact propext ⟨fun z => z.elim id (no b), False.elim⟩
    rw [e]
    exact ⟨_, rfl, hv⟩
  rcases hS with (h | ⟨o, h⟩) | ⟨o, its, n, h1, h2, h3, h4, h5, h6⟩
  · rcases hO a with z | ⟨o, xs, z⟩
    · rw [h] at z; cases z
    · rw [h] at z; cases z
  · exact ⟨(.fr, .lst (ns.map D.int)), .inl rfl, fin rfl ⟨a, o, _, _, rfl, rfl, id, h, dvs_ints ns⟩⟩
  · refine ⟨(.sh, .obj a), .inr ⟨a, rfl, ?_⟩, fin rfl (show DV H (fun _ => False) (.obj a) (.ref a) by unfold DV; rfl)⟩
    unfold knownL
    rw [h1]
    obtain ⟨oc, od, dt, osl⟩ := o
    have h2 : oc = .type "list" := h2
    have h3 : od = none := h3
    have h4 : dt = .seq its n := h4
    subst h2 h3 h4
    show (if its.toList.length ≤ sizeLine then klInts its.toList else none) = _
    rw [if_pos (by simpa using h5)]
    exact klInts_of h6
def LawOk (kl : Addr → Option (List Int)) (n : Nat) (S : FSpec) : Prop := ∀ (ns : List Int) (r : R), ns.length ≤ n → Scr kl ns r → S.run [r] (fun v _ => v.2 = .bl true) (fun _ _ => False)
theorem law_sp {cl : Str → Value} {K : PySem.W.Frag} {n : Nat} {S : FSpec} (h1 : S.ar = 1) (mf : MonoF S) (h : LawOk (knownL K) n S) (H : Hp) (a : Addr) (ns : List Int) (hl : ns.length ≤ n) (hO : Only H) (hS : SqL K H a (ns.map V.int)) :
    spOf cl S [.ref a] H (fun v _ => v = .bl true) fun _ _ _ => False := by
  obtain ⟨r, hr, rp⟩ := scr_of hO hS
  refine ⟨h1.symm, fun _ => False, [r], rfl, rp, fun q hq => ?_, mf _ _ _ _ _ (fun v outs e w H' a => ?_) (fun x o z H' _ => z) (h ns r hl hr)⟩
  · rw [List.mem_singleton] at hq
    subst hq
    rcases hr with rfl | ⟨_, rfl, _⟩ <;> nofun
  · obtain ⟨u, eu, hv⟩ := a.rep.ok _ (List.mem_append_left _ (List.mem_singleton.mpr rfl)) v.1 v.2 rfl
    cases eu
    obtain ⟨m, d⟩ := v
    have e : d = .bl true := e
    subst e
    cases m with
    | sh =>
      simp only [Val] at hv
      unfold DV at hv
      exact hv
    | fr =>
      obtain ⟨_, _, _, _, e, _⟩ := hv
      cases e
    | ow => obtain ⟨_, _, _, t⟩ := hv; exact t.elim
    | bo => obtain ⟨_, _, _, t⟩ := hv; exact t.elim
    | ln => obtain ⟨_, _, _, t⟩ := hv; exact t.elim
theorem law_callG {P : Program} {w : World} {K : PySem.W.Frag} {mg mb : Str → Option Value} {C : CXT} {k : Nat} {fa a : Addr} {fd : FuncData} {x : Str} {sp : Sp} {s₁ : Shared} {vs : List Value} {ns : List Int}
    (KX : K.In s₁.heap) (hns : s₁.heap.Ns mainGlobals mg) (hb : s₁.heap.Ns builtinsNs mb) (hbb : ∀ x : Str, x ≠ "__name__" → mb x = bootBuiltins x) (hlim : s₁.heap.NoLimit) (hg : s₁.gens = #[])
    (ha : s₁.heap.get? a = some { cls := .type "list", data := .seq vs.toArray }) (hi : IntsAre vs ns) (hl : ns.length ≤ sizeLine) (hr : Room k callerA)
    (F : ∀ base : Heap, K.In base → base.Ns mainGlobals mg → FnG P w K mg base C k fa fd [x] sp) (hbind : ∀ (s : Shared) (u : Value), BindsTo s fd ⟨[u], []⟩ [(x, u)])
    (hsp : ∀ H : Hp, Only H → SqL K H a (ns.map V.int) → sp [.ref a] H (fun v _ => v = .bl true) fun _ _ _ => False)
    (hCX : ∀ H e s', C [] H s₁ (fun _ _ _ => False) e s' → False) :
    codeAny (model P w) callerA (.call (.ref fa) ⟨[.ref a], []⟩) (fun r s' => r = .ok (.ret (.bool true)) ∧ OldK s₁.heap s'.heap ∧ s'.os = s₁.os ∧ AllBare s'.gens) s₁ := by
  have rv := vals_ints hi
  have lenV := hi.length
  have core : ∀ H : Hp, Only H → SqL K H a (ns.map V.int) → HOk P w H s₁.heap → (∀ b, H b ≠ none → b = a) → (H a ≠ none → K.lookup a = none) →
      codeAny (model P w) callerA (.call (.ref fa) ⟨[.ref a], []⟩) (fun r s' => r = .ok (.ret (.bool true)) ∧ OldK s₁.heap s'.heap ∧ s'.os = s₁.os ∧ AllBare s'.gens) s₁ := by
    intro H hO hS hok hA hK
    have bo : ∀ {b : Addr} {o : Obj}, s₁.heap.get? b = some o → H b = none → (hidT s₁.heap H).get? b = some o := fun e n => hidT_get e n
    have nA : ∀ {b : Addr} {o : Obj} {es : Array DictEntry} {ep : Nat}, s₁.heap.get? b = some o → o.data = .dict es ep → H b = none := fun {b o es ep} e d => by
      cases q : H b with
      | none => rfl
      | some u =>
        have e' : b = a := hA b (by rw [q]; simp)
        subst e'
        rw [ha] at e; cases e
        exact nomatch (show Data.seq vs.toArray _ = Data.dict es ep from d)
    have nsK : ∀ {b : Addr} {m : Str → Option Value}, s₁.heap.Ns b m → (hidT s₁.heap H).Ns b m := fun {b m} ⟨o, es, ep, e, d, r⟩ => ⟨o, es, ep, bo e (nA e d), d, r⟩
    have hKb : K.In (hidT s₁.heap H) := fun b o e => bo (KX b o e) (by
      cases q : H b with
      | none => rfl
      | some u =>
        have e' : b = a := hA b (by rw [q]; simp)
        subst e'
        rw [hK (by rw [q]; simp)] at e; cases e)
    have hM : Mod K mg (hidT s₁.heap H) := ⟨hKb, nsK hns, ⟨mb, nsK hb, hbb⟩, let ⟨mc, h1, h2⟩ := hlim; ⟨mc, nsK h1, h2⟩⟩
    have e0 : Env0 P w K mg (hidT s₁.heap H) callerA [] s₁ H := ⟨rfl, hM, fun b o e => of_hidT e, Nat.le_of_eq (hidT_size _ _), trivial, fun b hb => absurd (show b ∈ ([] : List Addr) from hb) (by simp), hok, .of_eq hg⟩
    refine codeAny_mono ((F _ hKb (nsK hns)).run callerA [] s₁ H ⟨[.ref a], []⟩ [.ref a] [.ref a] _ _ hr rfl e0 (hbind s₁ (.ref a)) (.cons rfl .nil) (hsp H hO hS)) fun r s' h => ?_
    cases r with
    | error e => exact (hCX H e s' h).elim
    | ok fl =>
      cases fl with
      | next => exact False.elim h
      | brk => exact False.elim h
      | cont => exact False.elim h
      | ret u =>
        obtain ⟨v, H', os, bare, un, hok', r', q⟩ := h
        have q' : v = .bl true := q
        subst q'
        obtain rfl : u = Value.bool true := r'
        refine ⟨rfl, OldK.of_keep fun b o e => ?_, os, bare⟩
        cases q : H b with
        | none => exact un.keep b o e q (by intro z; exact absurd (show b ∈ ([] : List Addr) from z) (by simp)) (by simp)
        | some u =>
          rcases hO b with z | ⟨ob, xs, z⟩
          · rw [q] at z; cases z
          · have z2 := un.frzs b ob _ z
            obtain ⟨e1, _⟩ := hok b _ z
            obtain ⟨e2, _⟩ := hok' b _ z2
            rw [e] at e1; cases e1
            exact e2
  cases hk : K.lookup a with
  | some o =>
    have e := KX a o hk
    rw [ha] at e
    cases e
    exact core (fun _ => none) (fun _ => .inl rfl) (.inr ⟨_, vs.toArray, _, hk, rfl, rfl, rfl, by rw [List.size_toArray, lenV]; exact hl, by simpa using rv⟩) (fun b u z => nomatch (show (none : Option HO) = some u from z)) (fun b z => absurd rfl z) fun z => absurd rfl z
  | none =>
    refine core (fun b => if b = a then some (.frz { cls := .type "list", data := .seq vs.toArray } (.lst (ns.map V.int))) else none) (fun b => ?_) (.inl (.inr ⟨{ cls := .type "list", data := .seq vs.toArray }, if_pos rfl⟩)) (fun b u z => ?_) (fun b z => ?_) fun _ => hk
    · by_cases hb : b = a
      · exact .inr ⟨_, _, if_pos hb⟩
      · exact .inl (if_neg hb)
    · by_cases hb : b = a
      · have z' := (if_pos hb).symm.trans z
        cases z'
        subst hb
        exact ⟨ha, by rw [List.length_map]; exact hl, vs, _, rv, ha⟩
      · exact nomatch ((if_neg hb).symm.trans z)
    · by_cases hb : b = a
      · exact hb
      · exact absurd (if_neg hb) z
theorem walk_G {l : PySem.W.OpenLaw} {n k : Nat} {q : Program} {loose : List Str} {XP : (Str → Option Value) → Heap → Prop} {YP : World → Heap → Prop} {d : DefRec} {C : World → CXT} {x : Str}
    (hn : l.most = some n) (hn2 : n ≤ sizeLine) (hdf : d.params.defaults = []) (hr : Room k callerA)
    (F : ∀ (w : World) (mg : Str → Option Value) (fa : Addr) (h : Heap), YP w h → h.Ns mainGlobals mg → mg d.name = some (.ref fa) →
      ∃ (K : PySem.W.Frag) (fd : FuncData) (sp : Sp), K.In h ∧ (∀ (s : Shared) (u : Value), BindsTo s fd ⟨[u], []⟩ [(x, u)]) ∧
        (∀ (H : Hp) (a : Addr) (ns : List Int), ns.length ≤ n → Only H → SqL K H a (ns.map V.int) → sp [.ref a] H (fun v _ => v = .bl true) fun _ _ _ => False) ∧
        ∀ base : Heap, K.In base → base.Ns mainGlobals mg → FnG l.prog w K mg base (C w) k fa fd [x] sp)
    (hCX : ∀ (w : World) (H : Hp) (s : Shared) (e : Value) (s' : Shared), C w [] H s (fun _ _ _ => False) e s' → False) :
    PySem.W.WalkO q loose XP YP l.row.toRowW d [] (fun f vs => PySem.call f vs) := by
  refine Att.attach_call hn hdf fun w s₀ s₁ mg mb fa o pm cd doc a vs ns g0 Y ho hd hcd hmg hobj hints hlen hg => ?_
  obtain ⟨K, fd, sp, KX, hb, hsp, hF⟩ := F w mg fa _ Y g0.T.g hmg
  exact law_callG KX g0.T.g g0.T.b g0.T.builtins g0.T.nolimit hg hobj hints (Nat.le_trans hlen hn2) hr hF hb (fun H hO hS => hsp H a ns hlen hO hS) fun H e s' => hCX w H s₁ e s'
end G
end
section
set_option Elab.async false
set_option linter.all false
set_option maxRecDepth 100000
namespace G
open PySem PySem.Spec PyProof.Rows L2
structure FEnt where
  S : FSpec
  ps : List Str
  kw : Bool
structure Tab where
  N : List Str
  sc : Scope
  fns : List (Str × FEnt)
  glb : List (Str × D)
  may : Str → Bool
  kl : Addr → Option (List Int)
  exs : List Str
def idx (x : Str) : List Str → Option Nat
  | [] => none
  | y :: r => if x = y then some 0 else match idx x r with
    | some i => some (i + 1)
    | none => none
theorem idx_ok {x : Str} : ∀ {N : List Str} {i : Nat}, idx x N = some i → N[i]? = some x
  | [], _, h => by cases h
  | y :: r, i, h => by
    unfold idx at h
    split at h
    · cases h
      rename_i e
      rw [e]; rfl
    · split at h
      · cases h
        rename_i e
        exact idx_ok (N := r) e
      · cases h
def visK : Option NameKind → Bool
  | some .local => true
  | some .cell => true
  | some .free => true
  | _ => false
def locK : Option NameKind → Bool
  | some .local => true
  | some .cell => true
  | _ => false
def gloK : Option NameKind → Bool
  | some .globalImplicit => true
  | _ => false
def Tab.slot (T : Tab) (x : Str) : Option Nat := if visK (T.sc.names.lookup x) && !(x == ("__debug__" : Str)) && !(x == ("__classdict__" : Str)) then idx x T.N else none
def Tab.tgt (T : Tab) (x : Str) : Option Nat := if locK (T.sc.names.lookup x) && T.may x then idx x T.N else none
def Tab.glo (T : Tab) (x : Str) : Bool := gloK (T.sc.names.lookup x) && !(x == ("__debug__" : Str))
def FnHas (cl : Str → Value) (X : Cx) (x : Str) (e : FEnt) : Prop := ∃ (k : Nat) (f : Addr) (fd : FuncData), FnG X.prog X.w X.K X.mg X.base (L2.CX X.prog X.w) k f fd e.ps (spOf cl e.S) ∧ Room k X.A ∧ X.mg x = some (.ref f) ∧ PySem.W.keepIn X.K (.ref f) = true ∧ Binds X.K fd e.ps []
  ∧ (e.kw = true → KRev X.K fd e.ps e.ps.reverse)
def bltNames : List Str := ["len", "abs", "max", "min", "sum", "all", "any", "repr", "int", "list", "tuple", "range", "zip", "reversed", "enumerate", "sorted", "set", "dict", "str", "isinstance", "divmod", "bool"]
def ExcHas (K : PySem.W.Frag) (mg : Str → Option Value) (cl : Str → Value) (x : Str) : Prop := ∃ C : Addr, cl x = .ref C ∧ mg x = some (.ref C) ∧ PySem.W.excIn K C He.veBase "ValueError.__new__" = true ∧ PySem.W.keepIn K (.ref C) = true ∧ PySem.W.subIn K (.ref C) (.type "BaseException") = some true ∧ PySem.W.typeIn K (.ref C) = some (.type "type")
structure Ctx (T : Tab) (cl : Str → Value) (X : Cx) : Prop where
  N : X.N = T.N
  nd : T.N.Nodup
  sc : X.env.scope = T.sc
  calm : X.calm = true
  gd : X.A.guards = some []
  un : X.A.units + 64 < cLine
  kl : T.kl = knownL X.K
  fnl : ∀ x, T.may x = true → X.fn x = true ∨ X.env.scope.names.lookup x = some .local
  fn : ∀ x S, T.fns.lookup x = some S → FnHas cl X x S
  gv : ∀ x d, T.glb.lookup x = some d → ∃ u v, X.mg x = some u ∧ RelV v u ∧ ∀ H O, DV H O d v
  bl : ∀ x ∈ bltNames, X.mg x = none
  xs : ∀ x ∈ T.exs, ExcHas X.K X.mg cl x
section
variable {T : Tab} {cl : Str → Value} {X : Cx}
theorem Ctx.vis (c : Ctx T cl X) {x : Str} {i : Nat} (h : T.slot x = some i) {pos : Pos} : PE X (.Name x pos) (tVar i) := by
  unfold Tab.slot at h
  split at h
  · rename_i q
    rw [Bool.and_eq_true, Bool.and_eq_true] at q
    obtain ⟨⟨q1, q2⟩, q3⟩ := q
    refine pe_var (by rw [c.N]; exact idx_ok h) ?_ (by simpa using q2) (by simpa using q3)
    rw [c.sc]
    unfold Vis
    unfold visK at q1
    split at q1 <;> first | exact .inl (by assumption) | exact .inr (.inl (by assumption)) | exact .inr (.inr (by assumption)) | cases q1
  · cases h
theorem Ctx.loc (c : Ctx T cl X) {x : Str} {i : Nat} (h : T.tgt x = some i) : X.N[i]? = some x ∧ L2.Loc X.env.scope x ∧ (X.fn x = true ∨ X.env.scope.names.lookup x = some .local) := by
  unfold Tab.tgt at h
  split at h
  · rename_i q0
    rw [Bool.and_eq_true] at q0
    obtain ⟨q, q0⟩ := q0
    have l : L2.Loc T.sc x := by
      unfold L2.Loc
      unfold locK at q
      split at q <;> first | exact .inl (by assumption) | exact .inr (by assumption) | cases q
    exact ⟨by rw [c.N]; exact idx_ok h, by rw [c.sc]; exact l, c.fnl x q0⟩
  · cases h
theorem Ctx.glob (c : Ctx T cl X) {x : Str} (h : T.glo x = true) : Gl X x ∧ (x == ("__debug__" : Str)) = false := by
  unfold Tab.glo at h
  rw [Bool.and_eq_true] at h
  refine ⟨?_, by simpa using h.2⟩
  show X.env.scope.names.lookup x = _
  rw [c.sc]
  have q := h.1
  unfold gloK at q
  split at q
  · assumption
  · cases q
end
def SdE (T : Tab) (e : Expr) (w : WE) : Prop := MonoG w ∧ ∀ cl X W, Ctx T cl X → Takes X W → PE X e (tE cl W w)
def SdT (T : Tab) (e : Expr) (w : WT) : Prop := MonoG w ∧ ∀ cl X W, Ctx T cl X → Takes X W → PT X e (tT cl W w)
def SdO (T : Tab) (e : Expr) (w : WO) : Prop := MonoG w ∧ ∀ cl X W, Ctx T cl X → Takes X W → PE X e (tO cl W w)
def SdA (T : Tab) (es : List Expr) (w : WA) : Prop := MonoG w ∧ ∀ cl X W, Ctx T cl X → Takes X W → PA X es (tA cl W w)
def SdK (T : Tab) (ks : List Keyword) (w : WA) : Prop := MonoG w ∧ ∀ cl X W, Ctx T cl X → Takes X W → PK X ks (tA cl W w)
def SdG (T : Tab) (Vs : Nat → Bool) (e : Expr) (g : WGt) : Prop := MonoT g ∧ ∀ cl X W, Ctx T cl X → Takes X W → PG X e (tGt Vs cl W g)
def SdI (T : Tab) (tg e : Expr) (i : FI × WA) : Prop := MonoG i.2 ∧ ∀ cl X W, Ctx T cl X → Takes X W → ∃ r, IOk r i.1 ∧ PI X tg e (fun σ H Q => tA cl W i.2 σ H fun vs H1 => r vs H1 Q)
def SdS (T : Tab) (st : Stmt) (w : WS) : Prop := MonoS w ∧ ∀ cl X W, Ctx T cl X → Takes X W → PassesOwn (model X.prog X.w) X.A X.env X.xe → PS X st (tSS cl W w)
def SdSs (T : Tab) (ss : List Stmt) (w : WS) : Prop := MonoS w ∧ ∀ cl X W, Ctx T cl X → Takes X W → PassesOwn (model X.prog X.w) X.A X.env X.xe → PSs X ss (tSS cl W w)
def bad {α : Type} : WG α := fun _ _ _ => False
def badT : WGt := fun _ _ _ _ => False
theorem bad.mono {α : Type} : MonoG (bad : WG α) := fun _ _ _ _ _ _ _ h => h
theorem tbad {α β : Type} {cl : Str → Value} {W : WX} {rel : α → β → SV → List En → Prop} {σ : SV} {H : Hp} {Q : β → Hp → Prop} (h : tG cl W rel (bad : WG α) σ H Q) : False := by
  obtain ⟨_, _, _, _, _, h⟩ := h
  exact h
theorem badT.mono : MonoT badT := fun _ _ _ _ _ _ _ _ h => h
section
variable {T : Tab} {Vs : Nat → Bool}
theorem sde_bad {e : Expr} : SdE T e bad := ⟨bad.mono, fun _ _ _ _ _ => ⟨fun _ _ _ _ _ _ q => (tbad q).elim⟩⟩
theorem sdt_bad {e : Expr} : SdT T e bad := ⟨bad.mono, fun _ _ _ _ _ => ⟨fun _ _ _ _ _ _ q => (tbad q).elim⟩⟩
theorem sdo_bad {e : Expr} : SdO T e bad := ⟨bad.mono, fun _ _ _ _ _ => ⟨fun _ _ _ _ _ _ q => (tbad q).elim⟩⟩
theorem sda_bad {es : List Expr} : SdA T es bad := ⟨bad.mono, fun _ _ _ _ _ => ⟨fun _ _ _ _ _ _ _ q => (tbad q).elim⟩⟩
theorem sdk_bad {ks : List Keyword} : SdK T ks bad := ⟨bad.mono, fun _ _ _ _ _ => ⟨fun _ _ _ _ _ _ _ q => (tbad q).elim⟩⟩
theorem sdg_bad {e : Expr} : SdG T Vs e badT := ⟨badT.mono, fun _ _ _ _ _ => ⟨fun _ _ _ _ _ _ _ _ _ q => by
  obtain ⟨_, _, _, _, _, _, h⟩ := q
  exact h.elim⟩⟩
theorem sds_bad {st : Stmt} : SdS T st sNever := ⟨sNever.mono, fun _ _ _ _ _ _ => ⟨fun _ _ _ _ _ _ q => by
  obtain ⟨_, _, _, _, _, h⟩ := q
  exact h.elim⟩⟩
theorem sdss_bad {ss : List Stmt} : SdSs T ss sNever := ⟨sNever.mono, fun _ _ _ _ _ _ => ⟨fun _ _ _ _ _ _ q => by
  obtain ⟨_, _, _, _, _, h⟩ := q
  exact h.elim⟩⟩
def fiBad : FI := fun _ _ => False
theorem sdi_bad {tg e : Expr} : SdI T tg e (fiBad, bad) := ⟨bad.mono, fun _ _ _ _ _ => ⟨fun _ _ _ => False, fun _ _ _ _ _ _ _ _ _ _ _ h => (h : False).elim, ⟨fun _ _ _ _ _ _ q => (tbad q).elim⟩⟩⟩
end
structure Tr where
  e : Tab → Expr → WE
  t : Tab → Expr → WT
  g : Tab → (Nat → Bool) → Expr → WGt
  ss : Tab → List Stmt → WS
structure Sd (r : Tr) : Prop where
  e : ∀ T e, SdE T e (r.e T e)
  t : ∀ T e, SdT T e (r.t T e)
  g : ∀ T Vs e, SdG T Vs e (r.g T Vs e)
  ss : ∀ T s, SdSs T s (r.ss T s)
def Tr0 : Tr := ⟨fun _ _ => bad, fun _ _ => bad, fun _ _ _ => badT, fun _ _ => sNever⟩
theorem Tr0.sd : Sd Tr0 := ⟨fun _ _ => sde_bad, fun _ _ => sdt_bad, fun _ _ _ => sdg_bad, fun _ _ => sdss_bad⟩
def eConst : Const → WE
  | .int i => wC (.int i)
  | .bool b => wC (.bl b)
  | .none => wC .non
  | .str x => wC (.str x)
  | _ => bad
theorem eConst.sd {T : Tab} (c : Const) (k : Nat) (pos : Pos) : SdE T (.Constant c k pos) (eConst c) := by
  cases c with
  | int i => exact ⟨wC.mono _, fun _ _ _ _ _ => pe_wC pe_int fun _ _ => by unfold DV; rfl⟩
  | bool i => exact ⟨wC.mono _, fun _ _ _ _ _ => pe_wC pe_bl fun _ _ => by unfold DV; rfl⟩
  | none => exact ⟨wC.mono _, fun _ _ _ _ _ => pe_wC pe_non fun _ _ => by unfold DV; rfl⟩
  | str x => exact ⟨wC.mono _, fun _ _ _ _ _ => pe_wC pe_str fun _ _ => by unfold DV; rfl⟩
  | _ => exact sde_bad
def eName (T : Tab) (x : Str) : WE := match T.slot x with
  | some i => wVar i
  | none => if T.glo x then (match T.glb.lookup x with
    | some d => wC d
    | none => bad) else bad
theorem eName.sd {T : Tab} (x : Str) (pos : Pos) : SdE T (.Name x pos) (eName T x) := by
  unfold eName
  split
  · rename_i i h
    exact ⟨wVar.mono _, fun _ _ _ c _ => pe_wVar (c.vis h)⟩
  · split
    · rename_i hg
      split
      · rename_i d h
        refine ⟨wC.mono _, fun _ _ _ c _ => ?_⟩
        obtain ⟨u, v, h1, h2, h3⟩ := c.gv x d h
        obtain ⟨g, hd⟩ := c.glob hg
        exact pe_wC (pe_glob g h1 h2 hd) h3
      · exact sde_bad
    · exact sde_bad
def oOf (r : Tr) (T : Tab) (e : Expr) : WO := match e with
  | .Name x _ => (match T.slot x with
    | some i => oLoc i
    | none => oTmp (r.e T e))
  | _ => oTmp (r.e T e)
theorem oOf.sd {r : Tr} (s : Sd r) {T : Tab} (e : Expr) : SdO T e (oOf r T e) := by
  have h : SdO T e (oTmp (r.e T e)) := ⟨oTmp.mono (s.e T e).1, fun cl X W c tk => pe_oTmp (s.e T e).1 ((s.e T e).2 cl X W c tk)⟩
  unfold oOf
  split
  · split
    · rename_i i q
      exact ⟨oLoc.mono _, fun _ _ _ c _ => pe_oLoc (c.vis q)⟩
    · exact h
  · exact h
def isStar : Expr → Bool
  | .Starred _ _ => true
  | _ => false
theorem star1 {e : Expr} (h : isStar e = false) (es : List Expr) (env : Env) : starEach (e :: es) env = (false, eval e env) :: starEach es env := by
  cases e <;> first | rfl | cases h
theorem star_any {pos : Pos} {env : Env} : ∀ {es : List Expr}, es.any isStar = false → (backTo pos (starEach es env)).any (·.1) = false
  | [], _ => rfl
  | e :: es, h => by
    rw [List.any_cons, Bool.or_eq_false_iff] at h
    rw [star1 h.1]
    show ((backTo pos ((false, eval e env) :: starEach es env))).any (·.1) = false
    exact star_any h.2
theorem star_all {pos : Pos} {env : Env} : ∀ {es : List Expr}, es.any isStar = false → (backTo pos (starEach es env)).all (fun x => !x.1) = true
  | [], _ => rfl
  | e :: es, h => by
    rw [List.any_cons, Bool.or_eq_false_iff] at h
    rw [star1 h.1]
    show ((backTo pos ((false, eval e env) :: starEach es env))).all (fun x => !x.1) = true
    exact star_all h.2
def aOf (r : Tr) (T : Tab) : List Expr → WA
  | [] => aNil
  | e :: es => if isStar e then bad else aCons (oOf r T e) (aOf r T es)
theorem aOf.sd {r : Tr} (s : Sd r) {T : Tab} : ∀ es : List Expr, SdA T es (aOf r T es)
  | [] => ⟨aNil.mono, fun _ _ _ _ _ => pa_aNil⟩
  | e :: es => by
    unfold aOf
    split
    · exact sda_bad
    · rename_i h
      have o := oOf.sd s (T := T) e
      have q := aOf.sd s (T := T) es
      exact ⟨aCons.mono o.1 q.1, fun cl X W c tk => pa_aCons o.1 q.1 (o.2 cl X W c tk) (q.2 cl X W c tk) (star1 (by simpa using h) _ _)⟩
def dOf (r : Tr) (T : Tab) : List Expr → WA
  | [] => aNil
  | e :: es => if isStar e then bad else aCons (oTmp (r.e T e)) (dOf r T es)
theorem dOf.sd {r : Tr} (s : Sd r) {T : Tab} : ∀ es : List Expr, SdA T es (dOf r T es)
  | [] => ⟨aNil.mono, fun _ _ _ _ _ => pa_aNil⟩
  | e :: es => by
    unfold dOf
    split
    · exact sda_bad
    · rename_i h
      have o : SdO T e (oTmp (r.e T e)) := ⟨oTmp.mono (s.e T e).1, fun cl X W c tk => pe_oTmp (s.e T e).1 ((s.e T e).2 cl X W c tk)⟩
      have q := dOf.sd s (T := T) es
      exact ⟨aCons.mono o.1 q.1, fun cl X W c tk => pa_aCons o.1 q.1 (o.2 cl X W c tk) (q.2 cl X W c tk) (star1 (by simpa using h) _ _)⟩
def kOf (r : Tr) (T : Tab) : List Keyword → WA
  | [] => aNil
  | ⟨_, e, _⟩ :: ks => aCons (oOf r T e) (kOf r T ks)
theorem tConsI {cl : Str → Value} {W : WX} {o : WO} {a : WA} (mo : MonoG o) (ma : MonoG a) : ∀ σ H Q, tA cl W (aCons o a) σ H Q → tCons (tO cl W o) (tA cl W a) σ H Q := fun σ H Q q => by
  obtain ⟨Z, T, ρ, hl, rp, q⟩ := q
  refine ⟨Z, T, ρ, hl, rp, mo _ _ _ _ _ (fun a ρ1 q b X1 H1 er n => ?_) (fun _ _ z => z) q⟩
  refine tG.next ma n (ma _ _ _ _ _ (fun as ρ2 q vs Y H2 er2 n2 => ?_) (fun _ _ z => z) q)
  exact q (b :: vs) (X1 ++ Y) H2 ⟨b, vs, X1, Y, rfl, rfl, er, er2⟩ n2
theorem pk_imp {X : Cx} {ks : List Keyword} {t t' : TA} (h : PK X ks t) (i : ∀ σ H Q, t' σ H Q → t σ H Q) : PK X ks t' := ⟨fun pos pins s σ H Q I q => h.run pos pins s σ H Q I (i σ H Q q)⟩
theorem kOf.sd {r : Tr} (s : Sd r) {T : Tab} : ∀ ks : List Keyword, SdK T ks (kOf r T ks)
  | [] => ⟨aNil.mono, fun _ _ _ _ _ => pk_imp pk_nil fun σ H Q q => by
    obtain ⟨Z, T, ρ, hl, r, q⟩ := q
    exact q [] [] H ⟨rfl, rfl⟩ (Nx.refl hl r)⟩
  | ⟨nm, e, p⟩ :: ks => by
    unfold kOf
    have o := oOf.sd s (T := T) e
    have q := kOf.sd s (T := T) ks
    exact ⟨aCons.mono o.1 q.1, fun cl X W c tk => pk_imp (pk_cons (nm := nm) (kpos := p) (o.2 cl X W c tk) (q.2 cl X W c tk)) (tConsI o.1 q.1)⟩
end G
end
section
set_option Elab.async false
set_option linter.all false
set_option maxRecDepth 100000
namespace G
open PySem PySem.Spec PyProof.Rows L2
def fBin : Operator → Option P2
  | .Add => some fAdd
  | .Sub => some fSub
  | .Mult => some fMul
  | .FloorDiv => some fDiv
  | .Mod => some fMod
  | .Pow => some fPow
  | .RShift => some fShr
  | .LShift => some fShl
  | .BitAnd => some fAnd
  | _ => none
theorem fBin.ok : ∀ {op : Operator} {f : P2}, fBin op = some f → Mono2 f ∧ ∀ X : Cx, ∃ r, POk2 r f ∧ OpR X (binaryOp op) r
  | .Add, _, h => by cases h; exact ⟨fAdd.mono, fun X => ⟨_, fAdd.ok, op_addA⟩⟩
  | .Sub, _, h => by cases h; exact ⟨fSub.mono, fun X => ⟨_, fSub.ok, op_sub⟩⟩
  | .Mult, _, h => by cases h; exact ⟨fMul.mono, fun X => ⟨_, fMul.ok, op_mulA⟩⟩
  | .FloorDiv, _, h => by cases h; exact ⟨fDiv.mono, fun X => ⟨_, fDiv.ok, op_fdivW⟩⟩
  | .Mod, _, h => by cases h; exact ⟨fMod.mono, fun X => ⟨_, fMod.ok, op_mod⟩⟩
  | .Pow, _, h => by cases h; exact ⟨fPow.mono, fun X => ⟨_, fPow.ok, op_pow⟩⟩
  | .RShift, _, h => by cases h; exact ⟨fShr.mono, fun X => ⟨_, fShr.ok, op_shr⟩⟩
  | .LShift, _, h => by cases h; exact ⟨fShl.mono, fun X => ⟨_, fShl.ok, op_shlW⟩⟩
  | .BitAnd, _, h => by cases h; exact ⟨fAnd.mono, fun X => ⟨_, fAnd.ok, op_and⟩⟩
  | .MatMult, _, h => by cases h
  | .Div, _, h => by cases h
  | .BitOr, _, h => by cases h
  | .BitXor, _, h => by cases h
def eBin (r : Tr) (T : Tab) (a : Expr) (op : Operator) (b : Expr) : WE := match fBin op with
  | some f => w2 f (oOf r T a) (oOf r T b)
  | none => bad
theorem eBin.sd {r : Tr} (s : Sd r) {T : Tab} (a : Expr) (op : Operator) (b : Expr) (pos : Pos) : SdE T (.BinOp a op b pos) (eBin r T a op b) := by
  unfold eBin
  split
  · rename_i f h
    have oa := oOf.sd s (T := T) a
    have ob := oOf.sd s (T := T) b
    refine ⟨w2.mono (fBin.ok h).1 oa.1 ob.1, fun cl X W c tk => ?_⟩
    obtain ⟨q, ok, ho⟩ := (fBin.ok h).2 X
    exact pe_imp (pe_op ho (oa.2 cl X W c tk) (ob.2 cl X W c tk)) (t2 oa.1 ob.1 ok)
  · exact sde_bad
def fLt : P2 := fCmp fun i j => decide (i < j)
def fLe : P2 := fCmp fun i j => decide (i ≤ j)
def fGt : P2 := fCmp fun i j => decide (j < i)
def fGe : P2 := fCmp fun i j => decide (j ≤ i)
def fCmpO : CmpOp → Option P2
  | .Eq => some (fEq false)
  | .NotEq => some (fEq true)
  | .Lt => some fLt
  | .LtE => some fLe
  | .Gt => some fGt
  | .GtE => some fGe
  | .Is => some (fIs false)
  | .IsNot => some (fIs true)
  | _ => none
theorem fCmpO.ok {X : Cx} (hu : X.A.units + 64 < cLine) : ∀ {op : CmpOp} {f : P2}, fCmpO op = some f → ∃ r, POk2 r f ∧ OpR X (compareOp op) r
  | .Eq, _, h => by cases h; exact ⟨_, fEq.ok, op_eqA hu⟩
  | .NotEq, _, h => by cases h; exact ⟨_, fNe.ok, op_neA hu⟩
  | .Lt, _, h => by cases h; exact ⟨_, fCmp.ok _, op_lt⟩
  | .LtE, _, h => by cases h; exact ⟨_, fCmp.ok _, op_le⟩
  | .Gt, _, h => by cases h; exact ⟨_, fCmp.ok _, op_gt⟩
  | .GtE, _, h => by cases h; exact ⟨_, fCmp.ok _, op_ge⟩
  | .Is, _, h => by cases h; exact ⟨_, fIs.ok, op_isA⟩
  | .IsNot, _, h => by cases h; exact ⟨_, fNot.ok, op_notA⟩
  | .In, _, h => by cases h
  | .NotIn, _, h => by cases h
theorem fCmpO.mono : ∀ {op : CmpOp} {f : P2}, fCmpO op = some f → Mono2 f
  | .Eq, _, h => by cases h; exact fEq.mono _
  | .NotEq, _, h => by cases h; exact fEq.mono _
  | .Lt, _, h => by cases h; exact fCmp.mono _
  | .LtE, _, h => by cases h; exact fCmp.mono _
  | .Gt, _, h => by cases h; exact fCmp.mono _
  | .GtE, _, h => by cases h; exact fCmp.mono _
  | .Is, _, h => by cases h; exact fIs.mono _
  | .IsNot, _, h => by cases h; exact fIs.mono _
  | .In, _, h => by cases h
  | .NotIn, _, h => by cases h
theorem fCmpO.mark {op : CmpOp} {f : P2} (h : fCmpO op = some f) (b : Expr) : behindInMarks op b = false := by
  cases op <;> first | (cases h; done) | (cases b <;> first | rfl | simp [behindInMarks])
def eCmp (r : Tr) (T : Tab) (a : Expr) (op : CmpOp) (b : Expr) : WE := match fCmpO op with
  | some f => w2 f (oOf r T a) (oOf r T b)
  | none => bad
theorem eCmp.sd {r : Tr} (s : Sd r) {T : Tab} (a : Expr) (op : CmpOp) (b : Expr) (pos : Pos) : SdE T (.Compare a [op] [b] pos) (eCmp r T a op b) := by
  unfold eCmp
  split
  · rename_i f h
    have oa := oOf.sd s (T := T) a
    have ob := oOf.sd s (T := T) b
    refine ⟨w2.mono (fCmpO.mono h) oa.1 ob.1, fun cl X W c tk => ?_⟩
    obtain ⟨q, ok, ho⟩ := fCmpO.ok (X := X) c.un h
    exact pe_imp (pe_cmpR ho (oa.2 cl X W c tk) (ob.2 cl X W c tk) (fCmpO.mark h b)) (t2 oa.1 ob.1 ok)
  · exact sde_bad
def wTB (w : WE) : WT := fun ρ Q E => w ρ (fun r ρ' => match r.2 with
  | .bl b => Q b ρ'
  | _ => False) E
theorem wTB.mono {w : WE} (m : MonoG w) : MonoG (wTB w) := fun ρ Q Q' E E' hQ hE h => m ρ _ _ E E' (fun r ρ' q => by
  split at q
  · exact hQ _ _ q
  · exact q.elim) hE h
theorem tTestI {cl : Str → Value} {W : WX} {w : WE} (m : MonoG w) : ∀ σ H Q, tT cl W (wTB w) σ H Q → tTest (tE cl W w) σ H Q := fun σ H Q q => by
  obtain ⟨Z, T, ρ, hl, rp, q⟩ := q
  refine ⟨Z, T, ρ, hl, rp, m _ _ _ _ _ (fun r ρ' q v X1 H1 er n => ?_) (fun _ _ z => z) q⟩
  have er : X1 = _ := er
  subst er
  split at q
  · rename_i b e
    obtain ⟨m, d⟩ := r
    have e : d = .bl b := e
    subst e
    have hv := n.temp1.cv.bl
    subst hv
    exact ⟨b, rfl, q b [] H1 ⟨rfl, rfl⟩ n.drop1⟩
  · exact q.elim
def tCmp (r : Tr) (T : Tab) (a : Expr) (op : CmpOp) (b : Expr) : WT := match fCmpO op with
  | some f => wTB (w2 f (oOf r T a) (oOf r T b))
  | none => bad
theorem tCmp.sd {r : Tr} (s : Sd r) {T : Tab} (a : Expr) (op : CmpOp) (b : Expr) (pos : Pos) : SdT T (.Compare a [op] [b] pos) (tCmp r T a op b) := by
  unfold tCmp
  split
  · rename_i f h
    have oa := oOf.sd s (T := T) a
    have ob := oOf.sd s (T := T) b
    have mm := w2.mono (fCmpO.mono h) oa.1 ob.1
    refine ⟨wTB.mono mm, fun cl X W c tk => ?_⟩
    obtain ⟨q, ok, ho⟩ := fCmpO.ok (X := X) c.un h
    exact pt_imp (pt_cmpR ho (oa.2 cl X W c tk) (ob.2 cl X W c tk) (fCmpO.mark h b)) fun σ H Q z => t2 (cl := cl) (W := W) oa.1 ob.1 ok σ H _ (tTestI mm σ H Q z)
  · exact sdt_bad
def eBool (r : Tr) (T : Tab) (op : BoolOp) : List Expr → WE
  | [] => bad
  | [a] => r.e T a
  | a :: b :: rest => match op with
    | .And => wAndE (r.e T a) (eBool r T op (b :: rest))
    | .Or => wOrE (r.e T a) (eBool r T op (b :: rest))
theorem eBool.sd {r : Tr} (s : Sd r) {T : Tab} (op : BoolOp) (pos : Pos) : ∀ es : List Expr, SdE T (.BoolOp op es pos) (eBool r T op es)
  | [] => sde_bad
  | [a] => ⟨(s.e T a).1, fun cl X W c tk => pe_one ((s.e T a).2 cl X W c tk)⟩
  | a :: b :: rest => by
    have h := eBool.sd s (T := T) op pos (b :: rest)
    have ha := s.e T a
    cases op with
    | And => exact ⟨wAndE.mono ha.1 h.1, fun cl X W c tk => pe_imp (pe_and (ha.2 cl X W c tk) (h.2 cl X W c tk)) (tAndVI ha.1 h.1)⟩
    | Or => exact ⟨wOrE.mono ha.1 h.1, fun cl X W c tk => pe_imp (pe_or (ha.2 cl X W c tk) (h.2 cl X W c tk)) (tOrVI ha.1 h.1)⟩
def tBool (r : Tr) (T : Tab) (op : BoolOp) : List Expr → WT
  | [] => bad
  | [a] => r.t T a
  | a :: b :: rest => match op with
    | .And => wAndT (r.t T a) (tBool r T op (b :: rest))
    | .Or => wOrT (r.t T a) (tBool r T op (b :: rest))
theorem pw_imp {X : Cx} {e : Expr} {t t' : TT} (h : PW X e t) (i : ∀ σ H Q, t' σ H Q → t σ H Q) : PW X e t' := ⟨fun wh pins s σ H Q I q => h.run wh pins s σ H Q I (i σ H Q q)⟩
theorem tBool.sdw {r : Tr} (s : Sd r) {T : Tab} (op : BoolOp) (pos : Pos) : ∀ es : List Expr, MonoG (tBool r T op es) ∧ ∀ cl X W, Ctx T cl X → Takes X W → PW X (.BoolOp op es pos) (tT cl W (tBool r T op es))
  | [] => ⟨bad.mono, fun _ _ _ _ _ => ⟨fun _ _ _ _ _ _ _ q => (tbad q).elim⟩⟩
  | [a] => ⟨(s.t T a).1, fun cl X W c tk => by
    cases op with
    | And => exact pw_and1 ((s.t T a).2 cl X W c tk)
    | Or => exact pw_or1 ((s.t T a).2 cl X W c tk)⟩
  | a :: b :: rest => by
    have h := tBool.sdw s (T := T) op pos (b :: rest)
    have ha := s.t T a
    cases op with
    | And => exact ⟨wAndT.mono ha.1 h.1, fun cl X W c tk => pw_imp (pw_and (ha.2 cl X W c tk) (h.2 cl X W c tk)) (tAndI h.1 ha.1)⟩
    | Or => exact ⟨wOrT.mono ha.1 h.1, fun cl X W c tk => pw_imp (pw_or (ha.2 cl X W c tk) (h.2 cl X W c tk)) (tOrI h.1 ha.1)⟩
theorem tBool.sd {r : Tr} (s : Sd r) {T : Tab} (op : BoolOp) (pos : Pos) (es : List Expr) : SdT T (.BoolOp op es pos) (tBool r T op es) :=
  ⟨(tBool.sdw s op pos es).1, fun cl X W c tk => ⟨fun pins st σ H Q I h => ((tBool.sdw s op pos es).2 cl X W c tk).run _ pins st σ H Q I h⟩⟩
def eUn (r : Tr) (T : Tab) (op : UnaryOp) (a : Expr) : WE := match op with
  | .Not => wNotE (r.e T a)
  | .USub => w1 fNeg (oOf r T a)
  | _ => bad
theorem eUn.sd {r : Tr} (s : Sd r) {T : Tab} (op : UnaryOp) (a : Expr) (pos : Pos) : SdE T (.UnaryOp op a pos) (eUn r T op a) := by
  cases op with
  | Not => exact ⟨wNotE.mono (s.e T a).1, fun cl X W c tk => pe_imp (pe_not ((s.e T a).2 cl X W c tk)) (tNotVI (s.e T a).1)⟩
  | USub =>
    have o := oOf.sd s (T := T) a
    exact ⟨w1.mono fNeg.mono o.1, fun cl X W c tk => pe_imp (pe_un un_neg (o.2 cl X W c tk)) (t1 o.1 fNeg.ok)⟩
  | _ => exact sde_bad
theorem eIf.sd {r : Tr} (s : Sd r) {T : Tab} (c a b : Expr) (pos : Pos) : SdE T (.IfExp c a b pos) (wIf (r.t T c) (r.e T a) (r.e T b)) :=
  ⟨wIf.mono (s.t T c).1 (s.e T a).1 (s.e T b).1, fun cl X W cx tk => pe_imp (pe_ifExp ((s.t T c).2 cl X W cx tk) ((s.e T a).2 cl X W cx tk) ((s.e T b).2 cl X W cx tk)) (tIfI (s.t T c).1 (s.e T a).1 (s.e T b).1)⟩
theorem eLst.sd {r : Tr} (s : Sd r) {T : Tab} (es : List Expr) (pos : Pos) : SdE T (.List es pos) (wN fLst (dOf r T es)) := by
  have a := dOf.sd s (T := T) es
  exact ⟨wN.mono fLst.mono a.1, fun cl X W c tk => pe_imp (pe_lst (a.2 cl X W c tk)) (tN a.1 fLst.ok)⟩
theorem eTup.sd {r : Tr} (s : Sd r) {T : Tab} (es : List Expr) (k : Nat) (pos : Pos) : SdE T (.Tuple es k pos) (wN fTup (dOf r T es)) := by
  have a := dOf.sd s (T := T) es
  exact ⟨wN.mono fTup.mono a.1, fun cl X W c tk => pe_imp (pe_tup (a.2 cl X W c tk)) (tN a.1 fTup.ok)⟩
def fIxK (kl : Addr → Option (List Int)) : P2 := fun a b Q => match a.2, b.2 with
  | .obj p, .int i => (match kl p with
    | some ns => (match atI ns i with
      | some n => Q (.sh, .int n)
      | none => False)
    | none => False)
  | _, _ => fIx a b Q
theorem fIxK.mono (kl : Addr → Option (List Int)) : Mono2 (fIxK kl) := fun a b Q Q' h q => by
  unfold fIxK at q ⊢
  split at q
  · split at q
    · split at q
      · exact h _ q
      · exact q.elim
    · exact q.elim
  · exact fIx.mono _ _ _ _ h q
theorem Vw.obj {H : Hp} {O : Addr → Prop} {m : Mo} {v : V} {a : Addr} (h : Vw H O (m, .obj a) v) : v = .ref a := by
  cases m with
  | fr => obtain ⟨_, _, _, _, e, _⟩ := h; cases e
  | _ => have h : DV H O (.obj a) v := h; unfold DV at h; exact h
theorem atI_map {α β : Type} (f : α → β) {xs : List α} {i : Int} {x : α} (h : atI xs i = some x) : atI (xs.map f) i = some (f x) := by
  unfold atI at h ⊢
  rw [List.length_map]
  cases q : ixN xs.length i with
  | none => rw [q] at h; cases h
  | some j =>
    rw [q] at h
    show (xs.map f)[j]? = _
    rw [List.getElem?_map]
    have h : xs[j]? = some x := h
    rw [h]
    rfl
theorem fIxK.ok {K : PySem.W.Frag} : POk2 (rIx K) (fIxK (knownL K)) := by
  intro O H a b x y Qd Q off va vb q k
  unfold fIxK at q
  split at q
  · rename_i p i e1 e2
    split at q
    · rename_i ns hn
      split at q
      · rename_i n hi
        obtain ⟨ma, da⟩ := a
        obtain ⟨mb, db⟩ := b
        have e1 : da = .obj p := e1
        have e2 : db = .int i := e2
        subst e1 e2
        cases va.obj
        cases vb.int
        exact .inl ⟨p, _, i, .int n, rfl, rfl, knownL_sq hn H, atI_map V.int hi, k _ _ _ _ q (.val dv_int)⟩
      · exact q.elim
    · exact q.elim
  · exact fIx.ok O H a b x y Qd Q off va vb q k
def isSlice : Expr → Bool
  | .Slice _ _ _ _ => true
  | _ => false
theorem plain_ix {b : Expr} (h : isSlice b = false) : PlainIx b := by
  cases b <;> first | (intro o i; rfl) | cases h
def pOf (r : Tr) (T : Tab) : Option Expr → WP
  | none => pNone
  | some e => pInt (r.e T e)
def eSub (r : Tr) (T : Tab) (a b : Expr) : WE := match b with
  | .Slice lo hi none _ => wSl (oOf r T a) (pOf r T lo) (pOf r T hi)
  | .Slice _ _ (some _) _ => bad
  | _ => w2 (fIxK T.kl) (oOf r T a) (oOf r T b)
theorem pOf.sd {r : Tr} (s : Sd r) {T : Tab} (o : Option Expr) : MonoG (pOf r T o) ∧ ∀ cl X W, Ctx T cl X → Takes X W → PO X o (tP cl W (pOf r T o)) := by
  cases o with
  | none => exact ⟨pNone.mono, fun _ _ _ _ _ => po_pNone⟩
  | some e => exact ⟨pInt.mono (s.e T e).1, fun cl X W c tk => po_pInt (s.e T e).1 ((s.e T e).2 cl X W c tk)⟩
theorem eSub.sd {r : Tr} (s : Sd r) {T : Tab} (a b : Expr) (pos : Pos) : SdE T (.Subscript a b pos) (eSub r T a b) := by
  have oa := oOf.sd s (T := T) a
  have ob := oOf.sd s (T := T) b
  have plain : isSlice b = false → SdE T (.Subscript a b pos) (w2 (fIxK T.kl) (oOf r T a) (oOf r T b)) := fun hb =>
    ⟨w2.mono (fIxK.mono _) oa.1 ob.1, fun cl X W c tk => by
      rw [c.kl]
      exact pe_imp (pe_ix ix_seq (oa.2 cl X W c tk) (ob.2 cl X W c tk) (plain_ix hb)) (t2 oa.1 ob.1 fIxK.ok)⟩
  unfold eSub
  split
  · rename_i lo hi p
    have l := pOf.sd s (T := T) lo
    have h := pOf.sd s (T := T) hi
    exact ⟨wSl.mono oa.1 l.1 h.1, fun cl X W c tk => pe_imp (pe_slice sl_both (oa.2 cl X W c tk) (l.2 cl X W c tk) (h.2 cl X W c tk)) (tSlI oa.1 l.1 h.1)⟩
  · exact sde_bad
  · refine plain ?_
    rename_i h1 h2
    cases b with
    | Slice lo hi st p =>
      cases st with
      | none => exact (h1 _ _ _ rfl).elim
      | some x => exact (h2 _ _ _ _ rfl).elim
    | _ => rfl
def fLenK (kl : Addr → Option (List Int)) : PN := fun rs Q => match rs with
  | [(_, .obj p)] => (match kl p with
    | some ns => Q (.sh, .int ns.length)
    | none => False)
  | _ => fLen rs Q
theorem fLenK.mono (kl : Addr → Option (List Int)) : MonoN (fLenK kl) := fun rs Q Q' h q => by
  unfold fLenK at q ⊢
  split at q
  · split at q
    · exact h _ q
    · exact q.elim
  · exact fLen.mono _ _ _ h q
theorem fLenK.ok {K : PySem.W.Frag} : POk (rLenA K) (fLenK (knownL K)) := by
  intro O H rs vs Qd Q off va q k
  unfold fLenK at q
  split at q
  · rename_i m p
    split at q
    · rename_i ns hn
      obtain ⟨v, rfl, h⟩ := vws1 va
      cases h.obj
      refine .inl ⟨p, _, rfl, .inl (knownL_sq hn H), ?_⟩
      rw [List.length_map]
      exact k _ _ _ _ q (.val dv_int)
    · exact q.elim
  · exact fLen.ok O H rs vs Qd Q off va q k
def bPN (kl : Addr → Option (List Int)) (x : Str) : Option PN :=
  if x = "len" then some (fLenK kl) else if x = "sum" then some fSum else if x = "tuple" then some fTupOf else if x = "list" then some fListOf else if x = "max" then some fMax else if x = "min" then some fMin else if x = "abs" then some fAbs
  else if x = "all" then some fAll else if x = "any" then some fAny else if x = "int" then some fIntOf else if x = "repr" then some fRepr else none
theorem bPN.mono {kl : Addr → Option (List Int)} {x : Str} {f : PN} (h : bPN kl x = some f) : MonoN f := by
  unfold bPN at h
  repeat' split at h
  all_goals first | (cases h; done) | (cases h; first | exact fLenK.mono _ | exact fSum.mono | exact fTupOf.mono | exact fListOf.mono | exact fMax.mono | exact fMin.mono | exact fAbs.mono | exact fAll.mono | exact fAny.mono | exact fIntOf.mono | exact fRepr.mono)
theorem bPN.ok {T : Tab} {cl : Str → Value} {X : Cx} (c : Ctx T cl X) {x : Str} {f : PN} (h : bPN T.kl x = some f) : X.mg x = none ∧ x ≠ "__name__" ∧ ∃ r, POk r f ∧ ((∃ id, bootBuiltins x = some (.builtin id) ∧ CallR X (.builtin id) r) ∨ (∃ ty, bootBuiltins x = some (.type ty) ∧ CallR X (.type ty) r)) := by
  have fin : ∀ {y : Str} {g : PN}, y ∈ bltNames → y ≠ "__name__" → (∃ r, POk r g ∧ ((∃ id, bootBuiltins y = some (.builtin id) ∧ CallR X (.builtin id) r) ∨ (∃ ty, bootBuiltins y = some (.type ty) ∧ CallR X (.type ty) r))) → X.mg y = none ∧ y ≠ "__name__" ∧ ∃ r, POk r g ∧ ((∃ id, bootBuiltins y = some (.builtin id) ∧ CallR X (.builtin id) r) ∨ (∃ ty, bootBuiltins y = some (.type ty) ∧ CallR X (.type ty) r)) :=
    fun h1 h2 h3 => ⟨c.bl _ h1, h2, h3⟩
  unfold bPN at h
  rw [c.kl] at h
  split at h
  · rename_i e; subst e; cases h
    exact fin (by decide +kernel) (by decide +kernel) ⟨_, fLenK.ok, .inl ⟨_, by decide +kernel, call_lenA⟩⟩
  split at h
  · rename_i e; subst e; cases h
    exact fin (by decide +kernel) (by decide +kernel) ⟨_, fSum.ok, .inl ⟨_, by decide +kernel, call_sumA c.calm⟩⟩
  split at h
  · rename_i e; subst e; cases h
    exact fin (by decide +kernel) (by decide +kernel) ⟨_, fTupOf.ok, .inr ⟨_, by decide +kernel, call_tuple_of⟩⟩
  split at h
  · rename_i e; subst e; cases h
    exact fin (by decide +kernel) (by decide +kernel) ⟨_, fListOf.ok, .inr ⟨_, by decide +kernel, call_list_of⟩⟩
  split at h
  · rename_i e; subst e; cases h
    exact fin (by decide +kernel) (by decide +kernel) ⟨_, fMax.ok, .inl ⟨_, by decide +kernel, call_maxA c.calm⟩⟩
  split at h
  · rename_i e; subst e; cases h
    exact fin (by decide +kernel) (by decide +kernel) ⟨_, fMin.ok, .inl ⟨_, by decide +kernel, call_minA c.calm⟩⟩
  split at h
  · rename_i e; subst e; cases h
    exact fin (by decide +kernel) (by decide +kernel) ⟨_, fAbs.ok, .inl ⟨_, by decide +kernel, call_abs⟩⟩
  split at h
  · rename_i e; subst e; cases h
    exact fin (by decide +kernel) (by decide +kernel) ⟨_, fAll.ok, .inl ⟨_, by decide +kernel, cr_all c.calm⟩⟩
  split at h
  · rename_i e; subst e; cases h
    exact fin (by decide +kernel) (by decide +kernel) ⟨_, fAny.ok, .inl ⟨_, by decide +kernel, cr_any c.calm⟩⟩
  split at h
  · rename_i e; subst e; cases h
    exact fin (by decide +kernel) (by decide +kernel) ⟨_, fIntOf.ok, .inr ⟨_, by decide +kernel, call_int1⟩⟩
  split at h
  · rename_i e; subst e; cases h
    exact fin (by decide +kernel) (by decide +kernel) ⟨_, fRepr.ok, .inl ⟨_, by decide +kernel, call_reprA c.gd c.un⟩⟩
  · cases h
end G
end
section
set_option Elab.async false
set_option linter.all false
set_option maxRecDepth 100000
namespace G
open PySem PySem.Spec PyProof.Rows L2
def tyD : D → Option String
  | .non => some "NoneType"
  | .bl _ => some "bool"
  | .int _ => some "int"
  | .str _ => some "str"
  | .lst _ => some "list"
  | .tup _ => some "tuple"
  | .dct _ => some "dict"
  | _ => none
def isiB (t y : String) : Bool := t == y || (t == "bool" && y == "int")
def fIsi (y : String) : P1 := fun a Q => match tyD a.2 with
  | some t => Q (.sh, .bl (isiB t y))
  | none => False
theorem fIsi.mono (y : String) : Mono1 (fIsi y) := fun a Q Q' h q => by
  unfold fIsi at q ⊢
  split at q
  · exact h _ q
  · exact q.elim
def isiTys : List String := ["int", "bool", "tuple", "list", "str", "dict"]
def allTys : List String := ["NoneType", "bool", "int", "str", "list", "tuple", "dict"]
theorem kit_ty (K : PySem.W.Frag) : ∀ t ∈ allTys, ∀ y ∈ isiTys, PySem.W.kitOne K (.type t) (.type y) = some (isiB t y) := by
  intro t ht y hy
  simp only [allTys, isiTys, List.mem_cons, List.not_mem_nil, or_false] at ht hy
  rcases ht with rfl | rfl | rfl | rfl | rfl | rfl | rfl <;> rcases hy with rfl | rfl | rfl | rfl | rfl | rfl <;> rfl
theorem tyD_all {d : D} {t : String} (h : tyD d = some t) : t ∈ allTys := by
  cases d <;> first | (cases h; done) | (cases h; decide)
theorem tyD_x {K : PySem.W.Frag} {H : Hp} {O : Addr → Prop} {a : R} {x : V} {t : String} (v : Vw H O a x) (h : tyD a.2 = some t) : TyX K H x (.type t) := by
  obtain ⟨m, d⟩ := a
  cases m with
  | fr =>
    obtain ⟨p, o, xs, ds, e, rfl, hp, _⟩ := v
    have e : d = .lst ds := e
    subst e
    cases h
    exact .base (.frz hp)
  | _ =>
    cases d with
    | non => cases h; cases v.non; exact .base .non
    | bl b => cases h; cases v.bl; exact .base (.bl _)
    | int i => cases h; cases v.int; exact .base (.int _)
    | str z => cases h; cases v.str; exact .base (.str _)
    | lst ds => cases h; obtain ⟨p, us, rfl, hp, _⟩ := v.cv (by intro z; cases z); exact .base (.lst hp)
    | tup ds => cases h; obtain ⟨p, us, rfl, hp, _⟩ := v.tup; exact .base (.tup hp)
    | dct kvs =>
      cases h
      obtain ⟨p, rfl, r⟩ := v.cv (by intro z; cases z)
      rcases r with ⟨ys, hp, _⟩ | ⟨ys, hp, _⟩
      · exact .base (.dK hp)
      · exact .base (.dT hp)
    | _ => cases h
theorem fIsi.ok {K : PySem.W.Frag} {y : String} (hy : y ∈ isiTys) : POk1 (fun x H Q => rIsi K [x, .ty y] H Q) (fIsi y) := by
  intro O H a x Qd Q off va q k
  unfold fIsi at q
  split at q
  · rename_i t e
    exact ⟨x, .ty y, .type t, .type y, _, rfl, .ty y, tyD_x va e, kit_ty K t (tyD_all e) y hy, k _ _ _ _ q (.val (by unfold DV; rfl))⟩
  · exact q.elim
def tyName : Str → Option String := fun x => if x = "int" then some "int" else if x = "bool" then some "bool" else if x = "tuple" then some "tuple" else if x = "list" then some "list" else if x = "str" then some "str" else if x = "dict" then some "dict" else none
theorem tyName.ok {x : Str} {y : String} (h : tyName x = some y) : y ∈ isiTys ∧ x ∈ bltNames ∧ x ≠ "__name__" ∧ (x == ("__debug__" : Str)) = false ∧ bootBuiltins x = some (.type y) := by
  unfold tyName at h
  repeat' split at h
  all_goals first | (rename_i e; subst e; cases h; exact ⟨by decide, by decide +kernel, by decide +kernel, by decide +kernel, by decide +kernel⟩) | cases h
def eIsi (r : Tr) (T : Tab) (as : List Expr) : WE := match as with
  | [a, .Name x _] => if T.glo "isinstance" && T.glo x && !(isStar a) then (match tyName x with
    | some y => w1 (fIsi y) (oOf r T a)
    | none => bad) else bad
  | _ => bad
theorem eIsi.sd {r : Tr} (s : Sd r) {T : Tab} (as : List Expr) (p pos : Pos) : SdE T (.Call (.Name "isinstance" p) as [] pos) (eIsi r T as) := by
  unfold eIsi
  split
  · rename_i a x q
    split
    · rename_i hg
      rw [Bool.and_eq_true, Bool.and_eq_true] at hg
      have hs : isStar a = false := by simpa using hg.2
      split
      · rename_i y hy
        obtain ⟨h1, h2, h3, h4, h5⟩ := tyName.ok hy
        have o := oOf.sd s (T := T) a
        refine ⟨w1.mono (fIsi.mono y) o.1, fun cl X W c tk => ?_⟩
        have pn : PE X (.Name x q) (tC (.ty y)) := pe_bltn (c.glob hg.1.2).1 (c.bl x h2) h5 rfl h3 h4
        exact pe_imp (pe_callB call_isi (c.glob hg.1.1).1 (c.bl _ (by decide +kernel)) (by decide +kernel) (pa_cons (o.2 cl X W c tk) (pa_cons pn pa_nil) (star1 hs _ _)) (by decide +kernel) (by decide +kernel) (star1 hs _ _) rfl) fun σ H Q z => t1 (r := fun x H Q => rIsi X.K [x, .ty y] H Q) o.1 (fIsi.ok h1) σ H Q z
      · exact sde_bad
    · exact sde_bad
  · exact sde_bad
def wChain (f f' : P2) (oa ob oc : WO) : WE := fun ρ Q E => oa ρ (fun a ρ1 => ob ρ1 (fun b ρ2 => match res ρ2 a, res ρ2 b with
  | some x, some y => f x y fun z => (match z.2 with
    | .bl k => if k = true then oc ρ2 (fun c ρ3 => match res ρ3 b, res ρ3 c with
      | some y', some w => f' y' w fun r => Q r ρ3
      | _, _ => False) E else Q (.sh, .bl false) ρ2
    | _ => False)
  | _, _ => False) E) E
theorem wChain.mono {f f' : P2} {oa ob oc : WO} (mf : Mono2 f) (mf' : Mono2 f') (ma : MonoG oa) (mb : MonoG ob) (mc : MonoG oc) : MonoG (wChain f f' oa ob oc) := fun ρ Q Q' E E' hQ hE h => ma ρ _ _ E E' (fun a ρ1 q => mb ρ1 _ _ E E' (fun b ρ2 q => by
  split at q
  · refine mf _ _ _ _ (fun z q => ?_) q
    split at q
    · rename_i k _
      cases k with
      | true =>
        rw [if_pos rfl] at q ⊢
        refine mc _ _ _ _ _ (fun c ρ3 q => ?_) hE q
        split at q
        · exact mf' _ _ _ _ (fun r => hQ r ρ3) q
        · exact q.elim
      | false => exact hQ _ _ q
    · exact q.elim
  · exact q.elim) hE q) hE h
theorem tChainI {cl : Str → Value} {W : WX} {f f' : P2} {oa ob oc : WO} {r r' : R2} (ma : MonoG oa) (mb : MonoG ob) (mc : MonoG oc) (ok : POk2 r f) (ok' : POk2 r' f') : ∀ σ H Q, tE cl W (wChain f f' oa ob oc) σ H Q → tChain r r' (tO cl W oa) (tO cl W ob) (tO cl W oc) σ H Q := fun σ H Q q => by
  obtain ⟨Z, T, ρ, hl, rp, q⟩ := q
  refine ⟨Z, T, ρ, hl, rp, ma _ _ _ _ _ (fun a ρ1 q v1 X1 H1 e1 n => ?_) (fun _ _ z => z) q⟩
  refine tG.next mb n (mb _ _ _ _ _ (fun b ρ2 q v2 X2 H2 e2 n2 => ?_) (fun _ _ z => z) q)
  split at q
  · rename_i x y ex ey
    have hv := views (as := [a, b]) (vs := [v1, v2]) (rs := [x, y]) n2.len n2.rep ⟨v1, [v2], X1, X2, rfl, rfl, e1, v2, [], X2, [], rfl, (List.append_nil _).symm, e2, rfl, rfl⟩ (by
      unfold ress ress ress
      rw [ex, ey])
    obtain ⟨_, _, ew, hv1, _, _, ew2, hv2, _⟩ := hv
    cases ew
    cases ew2
    refine ok _ H2 x y v1 v2 _ _ (fun p hp => fresh_off n2.rep.drop hp) hv1 hv2 q fun m d v H3 qd o => ?_
    split at qd
    · rename_i k ek
      have ek : d = .bl k := ek
      subst ek
      have hvk : v = .bl k ∧ m = .sh := by
        rcases o.2 with ⟨rfl, dv⟩ | ⟨rfl, p, rfl, np, t⟩
        · unfold DV at dv; exact ⟨dv, rfl⟩
        · exact t.elim
      obtain ⟨rfl, rfl⟩ := hvk
      refine ⟨k, rfl, ?_⟩
      -- the first one's temps are let go of, the second one's stand by
      have n3 : Nx Z T ρ σ H X2 ρ2 σ H3 := Nx.same (Nx.let (X := X1) (Y := X2) n2) o.1
      cases k with
      | true =>
        rw [if_pos rfl]
        rw [if_pos rfl] at qd
        refine tG.next mc n3 (mc _ _ _ _ _ (fun c ρ3 q v3 X3 H4 e3 n4 => ?_) (fun _ _ z => z) qd)
        split at q
        · rename_i y' w ey' ew'
          have hv := views (as := [b, c]) (vs := [v2, v3]) (rs := [y', w]) n4.len n4.rep ⟨v2, [v3], X2, X3, rfl, rfl, e2, v3, [], X3, [], rfl, (List.append_nil _).symm, e3, rfl, rfl⟩ (by
            unfold ress ress ress
            rw [ey', ew'])
          obtain ⟨_, _, ew, hv1, _, _, ew2, hv2, _⟩ := hv
          cases ew
          cases ew2
          exact ok' _ H4 y' w v2 v3 _ Q (fun p hp => fresh_off n4.rep.drop hp) hv1 hv2 q fun m d v H5 qd o => qd v _ H5 rfl (n4.out o)
        · exact q.elim
      | false =>
        rw [if_neg (by decide)]
        rw [if_neg (by decide)] at qd
        exact qd _ _ H3 rfl (n3.out (Out.val (by unfold DV; rfl)))
    · exact qd.elim
  · exact q.elim
def eChain (r : Tr) (T : Tab) (a : Expr) (op op' : CmpOp) (b c : Expr) : WE := match fCmpO op, fCmpO op' with
  | some f, some f' => wChain f f' (oOf r T a) (oOf r T b) (oOf r T c)
  | _, _ => bad
theorem chain_mark {op op' : CmpOp} {f' : P2} (h : fCmpO op' = some f') (b c : Expr) : lastMarks [op, op'] [b, c] = false := fCmpO.mark h c
theorem eChain.sd {r : Tr} (s : Sd r) {T : Tab} (a : Expr) (op op' : CmpOp) (b c : Expr) (pos : Pos) : SdE T (.Compare a [op, op'] [b, c] pos) (eChain r T a op op' b c) := by
  unfold eChain
  split
  · rename_i f f' h h'
    have oa := oOf.sd s (T := T) a
    have ob := oOf.sd s (T := T) b
    have oc := oOf.sd s (T := T) c
    refine ⟨wChain.mono (fCmpO.mono h) (fCmpO.mono h') oa.1 ob.1 oc.1, fun cl X W cx tk => ?_⟩
    obtain ⟨q, ok, ho⟩ := fCmpO.ok (X := X) cx.un h
    obtain ⟨q', ok', ho'⟩ := fCmpO.ok (X := X) cx.un h'
    exact pe_imp (pe_chain ho ho' (oa.2 cl X W cx tk) (ob.2 cl X W cx tk) (oc.2 cl X W cx tk) (chain_mark h' b c)) (tChainI oa.1 ob.1 oc.1 ok ok')
  · exact sde_bad
theorem tChain.sd {r : Tr} (s : Sd r) {T : Tab} (a : Expr) (op op' : CmpOp) (b c : Expr) (pos : Pos) : SdT T (.Compare a [op, op'] [b, c] pos) (wTB (eChain r T a op op' b c)) := by
  have e := eChain.sd s (T := T) a op op' b c pos
  refine ⟨wTB.mono e.1, fun cl X W cx tk => ?_⟩
  unfold eChain at e ⊢
  split
  · rename_i f f' h h'
    have oa := oOf.sd s (T := T) a
    have ob := oOf.sd s (T := T) b
    have oc := oOf.sd s (T := T) c
    obtain ⟨q, ok, ho⟩ := fCmpO.ok (X := X) cx.un h
    obtain ⟨q', ok', ho'⟩ := fCmpO.ok (X := X) cx.un h'
    have mm := wChain.mono (fCmpO.mono h) (fCmpO.mono h') oa.1 ob.1 oc.1
    exact pt_imp (pt_chain ho ho' (oa.2 cl X W cx tk) (ob.2 cl X W cx tk) (oc.2 cl X W cx tk) (chain_mark h' b c)) fun σ H Q z => tChainI (cl := cl) (W := W) oa.1 ob.1 oc.1 ok ok' σ H _ (tTestI mm σ H Q z)
  · refine ⟨fun _ _ _ _ _ _ z => ?_⟩
    obtain ⟨_, _, _, _, _, z⟩ := z
    exact z.elim
def fRevL : P1 := fun a Q => match a.2 with
  | .lst xs => Q (.ow, .lst xs.reverse)
  | _ => False
theorem fRevL.mono : Mono1 fRevL := fun a Q Q' h q => by
  unfold fRevL at q ⊢
  split at q
  · exact h _ q
  · exact q.elim
def rRevL (K : PySem.W.Frag) : V → Hp → VK → Prop := fun x H Q => ∃ a xs, x = .ref a ∧ SqL K H a xs ∧ ∀ p, H p = none → Q (.ref p) (upd H p (.lst xs.reverse))
theorem fRevL.ok {K : PySem.W.Frag} : POk1 (rRevL K) fRevL := by
  rintro O H ⟨m, a⟩ x Qd Q off va q k
  unfold fRevL at q
  split at q
  · rename_i xs e1; cases e1
    obtain ⟨p, us, rfl, hp, r⟩ := va.lst
    exact ⟨p, us, rfl, sqL_of hp, fun l hl => k _ _ _ _ q (.lst hl r.rev)⟩
  · exact q.elim
theorem eRevL.sd {r : Tr} (s : Sd r) {T : Tab} (a : Expr) (k : Nat) (p1 p2 p3 pos : Pos) : SdE T (.Subscript a (.Slice none none (some (.UnaryOp .USub (.Constant (.int 1) k p1) p2)) p3) pos) (w1 fRevL (oOf r T a)) := by
  have o := oOf.sd s (T := T) a
  exact ⟨w1.mono fRevL.mono o.1, fun cl X W c tk => pe_imp (pe_revL (o.2 cl X W c tk)) fun σ H Q z => t1 (r := rRevL X.K) o.1 fRevL.ok σ H Q z⟩
end G
end
section
set_option Elab.async false
set_option linter.all false
set_option maxRecDepth 100000
namespace G
open PySem PySem.Spec PyProof.Rows L2
def fRgL : P1 := fun a Q => match a.2 with
  | .int n => RgOk 0 n ∧ Q (.ow, .lst (rng 0 n.toNat))
  | _ => False
def fRgT : P1 := fun a Q => match a.2 with
  | .int n => RgOk 0 n ∧ Q (.sh, .tup (rng 0 n.toNat))
  | _ => False
theorem fRgL.mono : Mono1 fRgL := fun a Q Q' h q => by
  unfold fRgL at q ⊢
  split at q
  · exact ⟨q.1, h _ q.2⟩
  · exact q.elim
theorem fRgT.mono : Mono1 fRgT := fun a Q Q' h q => by
  unfold fRgT at q ⊢
  split at q
  · exact ⟨q.1, h _ q.2⟩
  · exact q.elim
theorem rng_ints (lo : Int) (n : Nat) : ∃ ns : List Int, rng lo n = ns.map D.int ∧ rgV lo (lo + n) = ns.map V.int := by
  refine ⟨(List.range n).map fun k : Nat => lo + (k : Int), ?_, ?_⟩
  · simp [rng, Function.comp_def]
  · have : (lo + (n : Int) - lo).toNat = n := by omega
    simp [rgV, Function.comp_def, this]
theorem rgOk_le {n : Int} (h : ¬ n < 0) : n = (0 : Int) + (n.toNat : Int) := by omega
def rRgL : V → Hp → VK → Prop := fun x H Q => ∃ n, x = .int n ∧ RgOk 0 n ∧ ∀ q, H q = none → Q (.ref q) (upd H q (.lst (rgV 0 n)))
def rRgT : V → Hp → VK → Prop := fun x H Q => ∃ n, x = .int n ∧ RgOk 0 n ∧ ∀ q, H q = none → Q (.ref q) (upd H q (.tup (rgV 0 n)))
theorem rgV_of (n : Int) : rgV 0 n = rgV 0 (0 + (n.toNat : Int)) := by
  unfold rgV
  have : (n - 0).toNat = (0 + (n.toNat : Int) - 0).toNat := by omega
  rw [this]
theorem fRgL.ok : POk1 rRgL fRgL := by
  rintro O H ⟨m, a⟩ x Qd Q off va q k
  unfold fRgL at q
  split at q
  · rename_i n e1; cases e1; cases va.int
    refine ⟨n, rfl, q.1, fun p np => ?_⟩
    obtain ⟨ns, e1, e2⟩ := rng_ints 0 n.toNat
    rw [rgV_of, e2]
    refine k _ _ _ _ q.2 ?_
    rw [e1]
    exact Out.lst np (dvs_ints ns)
  · exact q.elim
theorem fRgT.ok : POk1 rRgT fRgT := by
  rintro O H ⟨m, a⟩ x Qd Q off va q k
  unfold fRgT at q
  split at q
  · rename_i n e1; cases e1; cases va.int
    refine ⟨n, rfl, q.1, fun p np => ?_⟩
    obtain ⟨ns, e1, e2⟩ := rng_ints 0 n.toNat
    rw [rgV_of, e2]
    refine k _ _ _ _ q.2 ?_
    rw [e1]
    exact Out.tup np (off p np) (dvs_ints ns)
  · exact q.elim
def rgArg : List Expr → Option Expr
  | [.Call (.Name y _) [a] [] _] => if y = "range" && !(isStar a) then some a else none
  | _ => none
def eRgL (r : Tr) (T : Tab) (a : Expr) : WE := if T.glo "list" && T.glo "range" then w1 fRgL (oOf r T a) else bad
def eRgT (r : Tr) (T : Tab) (a : Expr) : WE := if T.glo "tuple" && T.glo "range" then w1 fRgT (oOf r T a) else bad
theorem rgArg.ok {as : List Expr} {a : Expr} (h : rgArg as = some a) : isStar a = false ∧ ∃ p pos, as = [.Call (.Name "range" p) [a] [] pos] := by
  unfold rgArg at h
  split at h
  · rename_i y p b pos
    split at h
    · rename_i hc
      cases h
      rw [Bool.and_eq_true] at hc
      have e : y = "range" := by simpa using hc.1
      subst e
      exact ⟨by simpa using hc.2, p, pos, rfl⟩
    · cases h
  · cases h
theorem eRgL.sd {r : Tr} (s : Sd r) {T : Tab} {as : List Expr} {a : Expr} (h : rgArg as = some a) (p pos : Pos) : SdE T (.Call (.Name "list" p) as [] pos) (eRgL r T a) := by
  obtain ⟨hs, p2, pos2, rfl⟩ := rgArg.ok h
  unfold eRgL
  split
  · rename_i hg
    rw [Bool.and_eq_true] at hg
    have o := oOf.sd s (T := T) a
    refine ⟨w1.mono fRgL.mono o.1, fun cl X W c tk => ?_⟩
    exact pe_imp (pe_listRg c.calm (c.glob hg.1).1 (c.bl _ (by decide +kernel)) (prg_1 (c.glob hg.2).1 (c.bl _ (by decide +kernel)) (o.2 cl X W c tk) (star1 hs _ _))) fun σ H Q z => t1 (r := rRgL) o.1 fRgL.ok σ H Q z
  · exact sde_bad
theorem eRgT.sd {r : Tr} (s : Sd r) {T : Tab} {as : List Expr} {a : Expr} (h : rgArg as = some a) (p pos : Pos) : SdE T (.Call (.Name "tuple" p) as [] pos) (eRgT r T a) := by
  obtain ⟨hs, p2, pos2, rfl⟩ := rgArg.ok h
  unfold eRgT
  split
  · rename_i hg
    rw [Bool.and_eq_true] at hg
    have o := oOf.sd s (T := T) a
    refine ⟨w1.mono fRgT.mono o.1, fun cl X W c tk => ?_⟩
    exact pe_imp (pe_tupRg c.calm (c.glob hg.1).1 (c.bl _ (by decide +kernel)) (prg_1 (c.glob hg.2).1 (c.bl _ (by decide +kernel)) (o.2 cl X W c tk) (star1 hs _ _))) fun σ H Q z => t1 (r := rRgT) o.1 fRgT.ok σ H Q z
  · exact sde_bad
end G
end
section
set_option Elab.async false
set_option linter.all false
set_option maxRecDepth 100000
namespace G
open PySem PySem.Spec PyProof.Rows L2
theorem relA_app {σ : SV} : ∀ {as bs : List Ar} {vs us : List V} {X Y : List En}, relA as vs σ X → relA bs us σ Y → relA (as ++ bs) (vs ++ us) σ (X ++ Y)
  | [], bs, vs, us, X, Y, h, h' => by obtain ⟨rfl, rfl⟩ := h; exact h'
  | a :: as, bs, vs, us, X, Y, h, h' => by
    obtain ⟨v, r, X1, X2, rfl, rfl, h1, h2⟩ := h
    exact ⟨v, r ++ us, X1, X2 ++ Y, rfl, by rw [List.append_assoc], h1, relA_app h2 h'⟩
theorem relA_rev {σ : SV} : ∀ {as : List Ar} {vs : List V} {X : List En}, relA as vs σ X → ∃ X', relA as.reverse vs.reverse σ X' ∧ X.Perm X'
  | [], vs, X, h => by obtain ⟨rfl, rfl⟩ := h; exact ⟨[], ⟨rfl, rfl⟩, .refl _⟩
  | a :: as, vs, X, h => by
    obtain ⟨v, r, X1, X2, rfl, rfl, h1, h2⟩ := h
    obtain ⟨X', h3, p⟩ := relA_rev h2
    refine ⟨X' ++ X1, ?_, (List.perm_append_comm).trans (p.append_right _)⟩
    rw [List.reverse_cons, List.reverse_cons]
    refine relA_app h3 ⟨v, [], X1, [], rfl, by rw [List.append_nil], h1, rfl, rfl⟩
theorem Nx.permX {Z : Addr → Prop} {T X X' : List En} {ρ ρ1 : Rh} {σ σ1 : SV} {H H1 : Hp} (n : Nx Z T ρ σ H X ρ1 σ1 H1) (p : X.Perm X') : Nx Z T ρ σ H X' ρ1 σ1 H1 :=
  ⟨n.len, n.lens, n.rep.perm (p.append_right _), n.keep, fun a z => n.grow a ((OwnL.perm (p.append_right _)).mpr z), n.sta⟩
def aRev (wa : WA) : WA := fun ρ Q E => wa ρ (fun as ρ' => Q as.reverse ρ') E
theorem aRev.mono {wa : WA} (m : MonoG wa) : MonoG (aRev wa) := fun ρ Q Q' E E' hQ hE h => m _ _ _ _ _ (fun as ρ' q => hQ _ _ q) hE h
theorem aRevI {cl : Str → Value} {W : WX} {wa : WA} (m : MonoG wa) {Q : List V → Hp → Prop} : ∀ σ H, tA cl W (aRev wa) σ H Q → tA cl W wa σ H (fun vs H1 => Q vs.reverse H1) := fun σ H q => by
  obtain ⟨Z, T, ρ, hl, rp, q⟩ := q
  refine ⟨Z, T, ρ, hl, rp, m _ _ _ _ _ (fun as ρ' q vs X H' er n => ?_) (fun _ _ z => z) q⟩
  obtain ⟨X', h1, p⟩ := relA_rev er
  exact q vs.reverse X' H' h1 (n.permX p)
def kwNames : List Keyword → List (Option Str)
  | [] => []
  | ⟨n, _, _⟩ :: ks => n :: kwNames ks
theorem kw_all {pos : Pos} {env : Env} {ps : List Str} : ∀ {ks : List Keyword}, kwNames ks = ps.map some → (backToKw pos (keywordEach ks env)).all (·.1.isSome) = true ∧ (backToKw pos (keywordEach ks env)).filterMap (·.1) = ps ∧ (backToKw pos (keywordEach ks env)).any (·.1.isNone) = false := by
  intro ks
  induction ks generalizing ps with
  | nil =>
    intro h
    cases ps with
    | nil => exact ⟨rfl, rfl, rfl⟩
    | cons => cases h
  | cons k ks ih =>
    obtain ⟨n, e, p⟩ := k
    intro h
    cases ps with
    | nil => cases h
    | cons q ps =>
      have h : n :: kwNames ks = some q :: ps.map some := h
      obtain ⟨e1, h'⟩ : n = some q ∧ kwNames ks = ps.map some := by simpa using h
      subst e1
      obtain ⟨h1, h2, h3⟩ := ih (ps := ps) h'
      refine ⟨?_, ?_, ?_⟩
      · show (true && (backToKw pos (keywordEach ks env)).all (·.1.isSome)) = true
        rw [h1]; rfl
      · show List.filterMap (·.1) (((some q, _) : Option Str × Sem Value) :: backToKw pos (keywordEach ks env)) = _
        rw [List.filterMap_cons]
        show q :: _ = _
        rw [h2]
      · show (false || (backToKw pos (keywordEach ks env)).any (·.1.isNone)) = false
        rw [h3]; rfl
theorem nilI {cl : Str → Value} {W : WX} {sp : Sp} {E : SV → XK} : ∀ σ H Q, tA cl W aNil σ H (fun vs H1 => sp vs H1 Q (E σ)) → tCallS sp E tNil σ H Q := fun σ H Q q => by
  obtain ⟨Z, T, ρ, hl, r, q⟩ := q
  exact q [] [] H ⟨rfl, rfl⟩ (Nx.refl hl r)
def eCallN (r : Tr) (T : Tab) (x : Str) (as : List Expr) : WE :=
  if x = "isinstance" then eIsi r T as else match rgArg as with
  | some a => if x = "list" then eRgL r T a else if x = "tuple" then eRgT r T a else bad
  | none =>
  if T.glo x && !(as.any isStar) then (match T.fns.lookup x with
    | some e => wCall e.S (aOf r T as)
    | none => match as, bPN T.kl x with
      | _ :: _, some f => wN f (aOf r T as)
      | _, _ => bad) else bad
theorem eCallN.sd {r : Tr} (s : Sd r) {T : Tab} (x : Str) (as : List Expr) (p pos : Pos) : SdE T (.Call (.Name x p) as [] pos) (eCallN r T x as) := by
  have a := aOf.sd s (T := T) as
  unfold eCallN
  split
  · rename_i e; subst e; exact eIsi.sd s as p pos
  split
  · rename_i a h
    split
    · rename_i e; subst e; exact eRgL.sd s h p pos
    split
    · rename_i e; subst e; exact eRgT.sd s h p pos
    · exact sde_bad
  split
  · rename_i hg
    rw [Bool.and_eq_true] at hg
    have hst : as.any isStar = false := by simpa using hg.2
    split
    · rename_i S hS
      refine ⟨wCall.mono S.S.mono a.1, fun cl X W c tk => ?_⟩
      · obtain ⟨k, f, fd, F, hr, hm, hk, hb, _⟩ := c.fn x S hS
        obtain ⟨g, hd⟩ := c.glob hg.1
        refine pe_imp ?_ (callI S.S.mono a.1)
        cases as with
        | nil => exact pe_imp (pe_callG0 F hr c.gd g hm hk hb (fun σ => passAt tk σ) hd) nilI
        | cons e es =>
          rw [List.any_cons, Bool.or_eq_false_iff] at hst
          exact pe_callG1 F hr c.gd g hm hk hb (fun σ => passAt tk σ) (a.2 cl X W c tk) hd (star1 hst.1 _ _) (star_any hst.2)
    · split
      · rename_i e es f hf _
        refine ⟨wN.mono (bPN.mono hf) a.1, fun cl X W c tk => ?_⟩
        obtain ⟨g, hd⟩ := c.glob hg.1
        obtain ⟨h1, h2, q, ok, h3⟩ := bPN.ok c hf
        rw [List.any_cons, Bool.or_eq_false_iff] at hst
        refine pe_imp ?_ (tN a.1 ok)
        rcases h3 with ⟨id, hb, hc⟩ | ⟨ty, hb, hc⟩
        · exact pe_callB hc g h1 hb (a.2 cl X W c tk) h2 hd (star1 hst.1 _ _) (star_any hst.2)
        · exact pe_callTy hc g h1 hb (a.2 cl X W c tk) h2 hd (star1 hst.1 _ _) (star_any hst.2)
      · exact sde_bad
  · exact sde_bad
def eCallK (r : Tr) (T : Tab) (x : Str) (ks : List Keyword) : WE :=
  if T.glo x then (match T.fns.lookup x with
    | some e => if e.kw = true ∧ kwNames ks = e.ps.reverse.map some then wCall e.S (aRev (kOf r T ks)) else bad
    | _ => bad) else bad
theorem eCallK.sd {r : Tr} (s : Sd r) {T : Tab} (x : Str) (ks : List Keyword) (p pos : Pos) : SdE T (.Call (.Name x p) [] ks pos) (eCallK r T x ks) := by
  have a := kOf.sd s (T := T) ks
  unfold eCallK
  split
  · rename_i hg
    split
    · rename_i e hS
      split
      · rename_i hk
        refine ⟨wCall.mono e.S.mono (aRev.mono a.1), fun cl X W c tk => ?_⟩
        obtain ⟨k, f, fd, F, hr, hm, hkp, hb, kr⟩ := c.fn x e hS
        obtain ⟨g, hd⟩ := c.glob hg
        obtain ⟨h1, h2, h3⟩ := kw_all (pos := pos) (env := X.env) hk.2
        refine pe_imp (pe_callGK F hr c.gd g hm hkp (kr hk.1) (fun σ => passAt tk σ) (a.2 cl X W c tk) h1 h2 hd h3) fun σ H Q q => ?_
        exact aRevI a.1 σ H (callI e.S.mono (aRev.mono a.1) σ H Q q)
      · exact sde_bad
    · exact sde_bad
  · exact sde_bad
def isStr (x : Str) (s : String) : Bool := x == (Str.ofString s)
def lineOk (a c : Pos) : Bool := a.endLine == c.line
def mOf (m : Str) (n : Nat) : Option PM :=
  if n = 1 then (if m = "append" then some mAppend else if m = "extend" then some mExtend else if m = "pop" then some mPopAt else none)
  else if n = 0 then (if m = "pop" then some mPop0 else none) else none
theorem tMut0 {K : PySem.W.Frag} {cl : Str → Value} {W : WX} {i : Nat} {g : PM} {r : V → List V → Hp → VK → Prop} (ok : MOk r g) : ∀ σ H Q, tE cl W (wMut i D.isLst g aNil) σ H Q → tBM0 K "list" r (tVar i) σ H Q := fun σ H Q q => by
  obtain ⟨v, h1, h2, h3⟩ := tMut (K := K) aNil.mono ok σ H Q q
  obtain ⟨Z, T, ρ, hl, rp, h3⟩ := h3
  exact ⟨v, h1, h2, h3 [] [] H ⟨rfl, rfl⟩ (Nx.refl hl rp)⟩
def eMut (r : Tr) (T : Tab) (o : Expr) (m : Str) (as : List Expr) (a c : Pos) : WE := match o with
  | .Name x _ => (match T.slot x, mOf m as.length with
    | some i, some g => if lineOk a c && !(as.any isStar) then wMut i D.isLst g (dOf r T as) else bad
    | _, _ => bad)
  | _ => bad
theorem len1 {α : Type} {as : List α} (h : as.length = 1) : ∃ a, as = [a] := by
  cases as with
  | nil => cases h
  | cons a as =>
    cases as with
    | nil => exact ⟨a, rfl⟩
    | cons => simp at h
theorem eMut.sd {r : Tr} (s : Sd r) {T : Tab} (o : Expr) (m : Str) (as : List Expr) (p pos : Pos) : SdE T (.Call (.Attribute o m p) as [] pos) (eMut r T o m as p pos) := by
  have a := dOf.sd s (T := T) as
  unfold eMut
  split
  · rename_i x px
    split
    · rename_i i g hi hm
      split
      · rename_i hc
        rw [Bool.and_eq_true] at hc
        obtain ⟨hl, hst⟩ := hc
        have hst : as.any isStar = false := by simpa using hst
        have hl : (p.endLine == pos.line) = true := hl
        unfold mOf at hm
        split at hm
        · rename_i hn
          obtain ⟨e, rfl⟩ := len1 hn
          rw [List.any_cons, Bool.or_eq_false_iff] at hst
          have st := star1 hst.1
          have few : ∀ env, ((backTo pos (starEach [e] env)).all (fun x => !x.1) && (backToKw pos (keywordEach [] env)).all (fun x => x.1.isSome) && decide ([e].length + ([] : List Keyword).length + (if ([] : List Keyword).isEmpty then 0 else 1) < 30)) = true := fun env => by
            rw [st]; rfl
          split at hm
          · rename_i e1; subst e1; cases hm
            exact ⟨wMut.mono mAppend.mono a.1, fun cl X W c tk => pe_imp (pe_bm F.plainAttrs_list F.slot_list_append F.type_list_append mt_append (c.vis hi) (a.2 cl X W c tk) rfl (few _) hl (st _ _) rfl) (tMut a.1 mAppend.ok)⟩
          split at hm
          · rename_i e1; subst e1; cases hm
            exact ⟨wMut.mono mExtend.mono a.1, fun cl X W c tk => pe_imp (pe_bm F.plainAttrs_list F.slot_list_extend F.type_list_extend mt_extend (c.vis hi) (a.2 cl X W c tk) rfl (few _) hl (st _ _) rfl) (tMut a.1 mExtend.ok)⟩
          split at hm
          · rename_i e1; subst e1; cases hm
            exact ⟨wMut.mono mPopAt.mono a.1, fun cl X W c tk => pe_imp (pe_bm F.plainAttrs_list F.slot_list_pop F.type_list_pop mt_popAt (c.vis hi) (a.2 cl X W c tk) rfl (few _) hl (st _ _) rfl) (tMut a.1 mPopAt.ok)⟩
          · cases hm
        split at hm
        · rename_i hn
          obtain rfl := List.length_eq_zero_iff.mp hn
          split at hm
          · rename_i e1; subst e1; cases hm
            exact ⟨wMut.mono mPop0.mono a.1, fun cl X W c tk => pe_imp (pe_bm0 F.plainAttrs_list F.slot_list_pop F.type_list_pop mt_pop (c.vis hi) rfl hl) (tMut0 mPop0.ok)⟩
          · cases hm
        · cases hm
      · exact sde_bad
    · exact sde_bad
  · exact sde_bad
end G
end
section
set_option Elab.async false
set_option linter.all false
set_option maxRecDepth 100000
namespace G
open PySem PySem.Spec PyProof.Rows L2
def gsOf (r : Tr) (T : Tab) (Vs : Nat → Bool) : List Expr → WGs
  | [] => gsNil
  | e :: es => gsCons (r.g T Vs e) (gsOf r T Vs es)
def gOf (r : Tr) (T : Tab) (Vs : Nat → Bool) (e : Expr) : WGt := match e with
  | .Name x _ => (match T.tgt x with
    | some i => if Vs i = true then gN i else badT
    | none => badT)
  | .Tuple es _ _ => if es.any isStar then badT else gTp es.length (gsOf r T Vs es)
  | .Subscript (.Name x _) b _ => (match T.slot x with
    | some n => if isSlice b then badT else gIx n (oOf r T b)
    | none => badT)
  | _ => badT
theorem asg1 {e : Expr} (h : isStar e = false) (es : List Expr) (env : Env) : assignEach (e :: es) env = (false, assign e env) :: assignEach es env := by
  cases e <;> first | rfl | cases h
theorem asg_len {env : Env} : ∀ {es : List Expr}, es.any isStar = false → (assignEach es env).length = es.length ∧ (assignEach es env).findIdx? (·.1) = none
  | [], _ => ⟨rfl, rfl⟩
  | e :: es, h => by
    rw [List.any_cons, Bool.or_eq_false_iff] at h
    rw [asg1 h.1]
    obtain ⟨h1, h2⟩ := asg_len h.2 (env := env)
    refine ⟨by simp [h1], ?_⟩
    rw [List.findIdx?_cons]
    show (if false = true then some 0 else ((assignEach es env).findIdx? (·.1)).map fun i => i + 1) = none
    rw [h2]
    rfl
theorem gsOf.sd {r : Tr} (s : Sd r) {T : Tab} {Vs : Nat → Bool} : ∀ es : List Expr, es.any isStar = false → MonoTs (gsOf r T Vs es) ∧ ∀ cl X W, Ctx T cl X → Takes X W → PGs X es (tGts Vs cl W (gsOf r T Vs es))
  | [], _ => ⟨gsNil.mono, fun _ _ _ _ _ => pgs_gsNil⟩
  | e :: es, h => by
    rw [List.any_cons, Bool.or_eq_false_iff] at h
    have a := s.g T Vs e
    have b := gsOf.sd s (T := T) (Vs := Vs) es h.2
    exact ⟨gsCons.mono a.1 b.1, fun cl X W c tk => pgs_gsCons a.1 b.1 (a.2 cl X W c tk) (b.2 cl X W c tk) (by rw [asg1 h.1]; rfl)⟩
theorem gOf.sd {r : Tr} (s : Sd r) {T : Tab} {Vs : Nat → Bool} (e : Expr) : SdG T Vs e (gOf r T Vs e) := by
  unfold gOf
  split
  · rename_i x p
    split
    · rename_i i hi
      split
      · rename_i hv
        refine ⟨gN.mono i, fun cl X W c tk => ?_⟩
        obtain ⟨h1, h2, h3⟩ := c.loc hi
        exact pg_gN hv (pg_name (by rw [c.N]; exact c.nd) h1 h2 h3)
      · exact sdg_bad
    · exact sdg_bad
  · rename_i es k p
    split
    · exact sdg_bad
    · rename_i h
      have h : es.any isStar = false := by simpa using h
      have a := gsOf.sd s (T := T) (Vs := Vs) es h
      exact ⟨gTp.mono a.1, fun cl X W c tk => pg_gTp a.1 c.calm (a.2 cl X W c tk) (asg_len h).1 (asg_len h).2⟩
  · rename_i x p b q
    split
    · rename_i n hn
      split
      · exact sdg_bad
      · rename_i hb
        have hb : isSlice b = false := by simpa using hb
        have o := oOf.sd s (T := T) b
        refine ⟨gIx.mono o.1, fun cl X W c tk => pg_gIx o.1 (c.vis hn) (o.2 cl X W c tk) fun v => ?_⟩
        cases b <;> first | rfl | cases hb
    · exact sdg_bad
  · exact sdg_bad
def iOf (r : Tr) (T : Tab) (tg e : Expr) : FI × WA := match e with
  | .Call (.Name x _) [a] [] _ => if x = "range" then (if T.glo x && !(isStar a) then (fRange1, aOf r T [a]) else (fiBad, bad))
    else if x = "reversed" then (if T.glo x && !(isStar a) then (fRev, aCons (oOf r T a) aNil) else (fiBad, bad))
    else if x = "enumerate" then (match tg with
      | .Tuple _ _ _ => if T.glo x && !(isStar a) then (fEnum, aOf r T [a]) else (fiBad, bad)
      | _ => (fiBad, bad))
    else (fSeq, aCons (oOf r T e) aNil)
  | .Call (.Name x _) [a, b] [] _ => if x = "range" then (if T.glo x && !(isStar a) && !(isStar b) then (fRange2, aOf r T [a, b]) else (fiBad, bad))
    else if x = "zip" then (match tg with
      | .Tuple _ _ _ => if T.glo x && !(isStar a) && !(isStar b) then (fZip, aOf r T [a, b]) else (fiBad, bad)
      | _ => (fiBad, bad))
    else (fSeq, aCons (oOf r T e) aNil)
  | .Starred _ _ => (fiBad, bad)
  | _ => (fSeq, aCons (oOf r T e) aNil)
theorem iSeq.sd {r : Tr} (s : Sd r) {T : Tab} (tg e : Expr) : SdI T tg e (fSeq, aCons (oOf r T e) aNil) := by
  have o := oOf.sd s (T := T) e
  exact ⟨aCons.mono o.1 aNil.mono, fun cl X W c tk => ⟨_, fSeq.ok, pi_seqO o.1 (o.2 cl X W c tk)⟩⟩
theorem iOf.sd {r : Tr} (s : Sd r) {T : Tab} (tg e : Expr) : SdI T tg e (iOf r T tg e) := by
  unfold iOf
  split
  · rename_i x p a q
    split
    · rename_i e1; subst e1
      split
      · rename_i h
        rw [Bool.and_eq_true] at h
        have hs : isStar a = false := by simpa using h.2
        have o := aOf.sd s (T := T) [a]
        exact ⟨o.1, fun cl X W c tk => ⟨_, fRange1.ok, pi_range1 (c.glob h.1).1 (c.bl _ (by decide +kernel)) (o.2 cl X W c tk) (star1 hs _ _)⟩⟩
      · exact sdi_bad
    split
    · rename_i e1; subst e1
      split
      · rename_i h
        rw [Bool.and_eq_true] at h
        have hs : isStar a = false := by simpa using h.2
        have o := oOf.sd s (T := T) a
        refine ⟨aCons.mono o.1 aNil.mono, fun cl X W c tk => ⟨_, fRev.ok (K := X.K), pi_imp (RT.pi_revA (c.glob h.1).1 (c.bl _ (by decide +kernel)) (o.2 cl X W c tk) (star1 hs _ _)) fun σ H Q z => ?_⟩⟩
        obtain ⟨Z, T', ρ, hl, rp, z⟩ := oneI o.1 σ H z
        refine ⟨Z, T', ρ, hl, rp, o.1 _ _ _ _ _ (fun a ρ' q b X1 H1 er n => ?_) (fun _ _ z => z) z⟩
        obtain ⟨v, ev, a, xs, e1, q⟩ := q b X1 H1 er n
        cases ev
        exact ⟨a, xs, e1, q⟩
      · exact sdi_bad
    split
    · rename_i e1; subst e1
      split
      · split
        · rename_i h
          rw [Bool.and_eq_true] at h
          have h1 : isStar a = false := by simpa using h.2
          have o := aOf.sd s (T := T) [a]
          exact ⟨o.1, fun cl X W c tk => ⟨_, fEnum.ok (K := X.K), pi_enumA (c.glob h.1).1 (c.bl _ (by decide +kernel)) (o.2 cl X W c tk) (star1 h1 _ _)⟩⟩
        · exact sdi_bad
      · exact sdi_bad
    · exact iSeq.sd s tg _
  · rename_i x p a b q
    split
    · rename_i e1; subst e1
      split
      · rename_i h
        rw [Bool.and_eq_true, Bool.and_eq_true] at h
        have h1 : isStar a = false := by simpa using h.1.2
        have h2 : isStar b = false := by simpa using h.2
        have o := aOf.sd s (T := T) [a, b]
        exact ⟨o.1, fun cl X W c tk => ⟨_, fRange2.ok, pi_range2 (c.glob h.1.1).1 (c.bl _ (by decide +kernel)) (o.2 cl X W c tk) (by rw [star1 h1, star1 h2]; rfl) (by rw [star1 h2]; rfl)⟩⟩
      · exact sdi_bad
    split
    · rename_i e1; subst e1
      split
      · split
        · rename_i h
          rw [Bool.and_eq_true, Bool.and_eq_true] at h
          have h1 : isStar a = false := by simpa using h.1.2
          have h2 : isStar b = false := by simpa using h.2
          have o := aOf.sd s (T := T) [a, b]
          exact ⟨o.1, fun cl X W c tk => ⟨_, fZip.ok (K := X.K), RZ.pi_zipA (c.glob h.1.1).1 (c.bl _ (by decide +kernel)) (o.2 cl X W c tk) (star1 h1 _ _) (by rw [star1 h2]; rfl)⟩⟩
        · exact sdi_bad
      · exact sdi_bad
    · exact iSeq.sd s tg _
  · exact sdi_bad
  · exact iSeq.sd s tg _
def ownOf (N : List Str) : List (Str × NameKind) → List (Str × Nat)
  | [] => []
  | (x, k) :: r => if locK (some k) then (match idx x N with
    | some i => (x, i) :: ownOf N r
    | none => ownOf N r) else ownOf N r
def Tab.inn (T : Tab) (scope : Scope) : Tab := { T with sc := relS scope T.sc, may := fun x => locK (scope.names.lookup x) }
def wYes : WT := fun ρ Q _ => Q true ρ
theorem wYes.mono : MonoG wYes := fun ρ Q Q' E E' hQ hE h => hQ _ _ h
def tsOf (r : Tr) (T : Tab) : List Expr → WT
  | [] => wYes
  | [c] => r.t T c
  | _ => bad
theorem pts_imp {X : Cx} {es : List Expr} {t t' : TT} (h : PTs X es t) (i : ∀ σ H Q, t' σ H Q → t σ H Q) : PTs X es t' := ⟨fun pins s σ H Q I q => h.run pins s σ H Q I (i σ H Q q)⟩
theorem tsOf.sd {r : Tr} (s : Sd r) {T : Tab} (es : List Expr) : MonoG (tsOf r T es) ∧ ∀ cl X W, Ctx T cl X → Takes X W → PTs X es (tT cl W (tsOf r T es)) := by
  match es with
  | [] => exact ⟨wYes.mono, fun _ _ _ _ _ => pts_imp pts_nil fun σ H Q q => by
      obtain ⟨Z, T, ρ, hl, r, q⟩ := q
      exact q true [] H ⟨rfl, rfl⟩ (Nx.refl hl r)⟩
  | [c] => exact ⟨(s.t T c).1, fun cl X W cx tk => pts_one ((s.t T c).2 cl X W cx tk)⟩
  | _ :: _ :: _ => exact ⟨bad.mono, fun _ _ _ _ _ => ⟨fun _ _ _ _ _ _ q => (tbad q).elim⟩⟩
def isSetE : Expr → Bool
  | .Set _ _ _ => true
  | _ => false
theorem folded {e : Expr} (h : isSetE e = false) (env : Env) (x : Value) : foldedSetIterable e env x = pure x := by
  cases e <;> first | rfl | cases h
def eComp (r : Tr) (T : Tab) (elt tg iter : Expr) (ifs : List Expr) (scope : Scope) : WE :=
  let vs := (ownOf T.N scope.names).map (·.2)
  let i := iOf r T tg iter
  if blkC T.N T.sc scope (ownOf T.N scope.names) && !(isSetE iter) then wComp i.1 i.2 (r.g (T.inn scope) (fun i => vs.contains i) tg) (tsOf r (T.inn scope) ifs) (r.e (T.inn scope) elt) vs else bad
theorem Takes.none {X : Cx} : Takes X W0 := fun u s' x => by
  obtain ⟨a, B, sI, pins, σ, H, cls, d, _, _, _, _, _, _, _, _, w⟩ := x
  exact w.elim
theorem Ctx.blk {T : Tab} {cl : Str → Value} {X : Cx} (c : Ctx T cl X) {scope : Scope} (s : Shared) (H : Hp) (C : Addr) (cs : List (Str × Addr)) (fp : List Addr) : Ctx (T.inn scope) cl (X.blk s H scope (compEnvC scope cs C X.env) fp) where
  N := c.N
  nd := c.nd
  sc := by
    show relabel scope X.env = relS scope T.sc
    rw [← c.sc]
    rfl
  calm := c.calm
  gd := c.gd
  un := c.un
  kl := c.kl
  fnl := fun x h => by
    have h : locK (scope.names.lookup x) = true := h
    unfold locK at h
    split at h
    · rename_i e
      exact .inr (lookup_relabel_local (env := X.env) e)
    · rename_i e
      left
      show (scope.names.lookup x == some .cell) = true
      rw [e]
      rfl
    · cases h
  fn := fun x e h => c.fn x e h
  gv := fun x d h => c.gv x d h
  bl := c.bl
  xs := c.xs
theorem eComp.sd {r : Tr} (s : Sd r) {T : Tab} (elt tg iter : Expr) (ifs : List Expr) (scope : Scope) (pos : Pos) : SdE T (.ListComp elt [⟨tg, iter, ifs, 0⟩] scope pos) (eComp r T elt tg iter ifs scope) := by
  unfold eComp
  have i := iOf.sd s (T := T) tg iter
  have g := s.g (T.inn scope) (fun i => ((ownOf T.N scope.names).map (·.2)).contains i) tg
  have t := tsOf.sd s (T := T.inn scope) ifs
  have e := s.e (T.inn scope) elt
  simp only
  split
  · rename_i h
    rw [Bool.and_eq_true] at h
    have hs : isSetE iter = false := by simpa using h.2
    refine ⟨wComp.mono i.1 g.1 t.1 e.1, fun cl X W c tk => ?_⟩
    obtain ⟨q, ok, pi⟩ := i.2 cl X W c tk
    have bk : BlkOk X.N X.env.scope scope (ownOf T.N scope.names) := by
      rw [c.N, c.sc]
      exact blkOk_by h.1
    exact pe_imp (pe_lc c.calm (by rw [c.N]; exact c.nd) pi bk (fun s0 H C cs fp => g.2 cl _ W0 (c.blk s0 H C cs fp) Takes.none) (fun s0 H C cs fp => t.2 cl _ W0 (c.blk s0 H C cs fp) Takes.none) (fun s0 H C cs fp => e.2 cl _ W0 (c.blk s0 H C cs fp) Takes.none) (folded hs _)) (compI i.1 g.1 t.1 e.1 ok)
  · exact sde_bad
def eStep (r : Tr) (T : Tab) (e : Expr) : WE := match e with
  | .Constant c _ _ => eConst c
  | .Name x _ => eName T x
  | .BinOp a op b _ => eBin r T a op b
  | .Compare a [op] [b] _ => eCmp r T a op b
  | .Compare a [op, op'] [b, c] _ => eChain r T a op op' b c
  | .BoolOp op es _ => eBool r T op es
  | .UnaryOp op a _ => eUn r T op a
  | .IfExp c a b _ => wIf (r.t T c) (r.e T a) (r.e T b)
  | .List es _ => wN fLst (dOf r T es)
  | .Tuple es _ _ => wN fTup (dOf r T es)
  | .Subscript a (.Slice none none (some (.UnaryOp .USub (.Constant (.int 1) _ _) _)) _) _ => w1 fRevL (oOf r T a)
  | .Subscript a b _ => eSub r T a b
  | .Call (.Name x _) as [] _ => eCallN r T x as
  | .Call (.Name x _) [] (k :: ks) _ => eCallK r T x (k :: ks)
  | .Call (.Attribute o m p) as [] pos => eMut r T o m as p pos
  | .ListComp elt [⟨tg, iter, ifs, 0⟩] scope _ => eComp r T elt tg iter ifs scope
  | _ => bad
theorem eStep.sd {r : Tr} (s : Sd r) (T : Tab) (e : Expr) : SdE T e (eStep r T e) := by
  unfold eStep
  split
  · exact eConst.sd _ _ _
  · exact eName.sd _ _
  · exact eBin.sd s _ _ _ _
  · exact eCmp.sd s _ _ _ _
  · exact eChain.sd s _ _ _ _ _ _
  · exact eBool.sd s _ _ _
  · exact eUn.sd s _ _ _
  · exact eIf.sd s _ _ _ _
  · exact eLst.sd s _ _
  · exact eTup.sd s _ _ _
  · exact eRevL.sd s _ _ _ _ _ _
  · exact eSub.sd s _ _ _
  · exact eCallN.sd s _ _ _ _
  · exact eCallK.sd s _ _ _ _
  · exact eMut.sd s _ _ _ _ _
  · exact eComp.sd s _ _ _ _ _ _
  · exact sde_bad
def tStep (r : Tr) (T : Tab) (e : Expr) : WT := match e with
  | .UnaryOp .Not a _ => wNotT (r.t T a)
  | .BoolOp op es _ => tBool r T op es
  | .IfExp _ _ _ _ => bad
  | .Compare a [op] [b] _ => tCmp r T a op b
  | .Compare a [op, op'] [b, c] _ => wTB (eChain r T a op op' b c)
  | .Compare _ _ _ _ => bad
  | e => wTV (r.e T e)
theorem tStep.sd {r : Tr} (s : Sd r) (T : Tab) (e : Expr) : SdT T e (tStep r T e) := by
  unfold tStep
  split
  · rename_i a p
    have t := s.t T a
    exact ⟨wNotT.mono t.1, fun cl X W c tk => pt_imp (pt_not (t.2 cl X W c tk)) (tNotI t.1)⟩
  · exact tBool.sd s _ _ _
  · exact sdt_bad
  · exact tCmp.sd s _ _ _ _
  · exact tChain.sd s _ _ _ _ _ _
  · exact sdt_bad
  · rename_i h1 h2 h3 h4 h4' h5
    have t := s.e T e
    refine ⟨wTV.mono t.1, fun cl X W c tk => pt_imp (pt_val (t.2 cl X W c tk) fun wh => ?_) (tV t.1)⟩
    cases e with
    | UnaryOp op a p =>
      cases op with
      | Not => exact (h1 a p rfl).elim
      | _ => rfl
    | BoolOp op es p => exact (h2 op es p rfl).elim
    | IfExp a b c p => exact (h3 a b c p rfl).elim
    | Compare a b c p => exact (h5 a b c p rfl).elim
    | _ => rfl
end G
end
section
set_option Elab.async false
set_option linter.all false
set_option maxRecDepth 100000
namespace G
open PySem PySem.Spec PyProof.Rows L2
theorem Nx.setX {Z : Addr → Prop} {T X : List En} {ρ ρ1 : Rh} {σ σ1 : SV} {H H1 : Hp} {m : Mo} {d : D} {v : V} {i : Nat} (n : Nx Z T ρ σ H ((.dat m d, some v) :: X) ρ1 σ1 H1) (c : canSet ρ1 i) : Nx Z T ρ σ H X (ρ1.set i (.dat m d)) (σ1.set i (some v)) H1 := by
  have rp : RepL Z H1 ((.dat m d, some v) :: (ρ1.zip σ1 ++ (X ++ T))) := n.rep.perm (by
    show ((.dat m d, some v) :: (X ++ (ρ1.zip σ1 ++ T))).Perm _
    refine List.Perm.cons _ ?_
    rw [← List.append_assoc, ← List.append_assoc]
    exact (List.perm_append_comm (l₁ := X) (l₂ := ρ1.zip σ1)).append_right T)
  have g := NxG.set (Vs := fun _ => true) (r := (m, d)) n.len rp c rfl
  refine ⟨g.len, g.lens.trans n.lens, g.rep.perm ?_, n.keep, fun a z => ?_, n.sta.trans g.sta⟩
  · rw [← List.append_assoc, ← List.append_assoc]
    exact (List.perm_append_comm (l₂ := X)).append_right T
  · rcases OwnL.app.mp z with z | z
    · exact n.grow a (OwnL.cons.mpr (.inr (OwnL.app.mpr (.inl z))))
    · rcases g.grow a z with (z | z) | z
      · exact n.grow a (OwnL.cons.mpr (.inl z))
      · exact n.grow a (OwnL.cons.mpr (.inr (OwnL.app.mpr (.inr z))))
      · exact back n.keep z
def parW : List Nat → List Ar → Rh → (Rh → Prop) → Prop
  | [], [], ρ, Q => Q ρ
  | i :: is, .tmp m d :: as, ρ, Q => canSet ρ i ∧ parW is as (ρ.set i (.dat m d)) Q
  | _, _, _, _ => False
theorem parW.mono : ∀ {is : List Nat} {as : List Ar} {ρ : Rh} {Q Q' : Rh → Prop}, (∀ ρ', Q ρ' → Q' ρ') → parW is as ρ Q → parW is as ρ Q'
  | [], [], _, _, _, h, q => h _ q
  | i :: is, .tmp m d :: as, _, _, _, h, q => ⟨q.1, parW.mono (is := is) (as := as) h q.2⟩
  | [], _ :: _, _, _, _, _, q => q.elim
  | _ :: _, [], _, _, _, _, q => q.elim
  | _ :: _, .loc _ :: _, _, _, _, _, q => q.elim
def sPar (is : List Nat) (wa : WA) : WS := fun ρ D => wa ρ (fun as ρ1 => parW is as ρ1 D.nx) D.ex
theorem sPar.mono {is : List Nat} {wa : WA} (ma : MonoG wa) : MonoS (sPar is wa) := fun ρ D D' h q => ma _ _ _ _ _ (fun as ρ1 z => parW.mono h.nx z) h.ex q
def setV : List Nat → List V → SV → SV
  | i :: is, v :: vs, σ => setV is vs (σ.set i (some v))
  | _, _, σ => σ
theorem parW.run {Z : Addr → Prop} {T : List En} {ρ : Rh} {σ σ0 : SV} {H H1 : Hp} {Q : Rh → Prop} : ∀ {is : List Nat} {as : List Ar} {vs : List V} {X : List En} {ρ1 : Rh} {σ1 : SV}, relA as vs σ0 X → Nx Z T ρ σ H X ρ1 σ1 H1 → parW is as ρ1 Q → vs.length = is.length ∧ ∃ ρ2, Q ρ2 ∧ Nx Z T ρ σ H [] ρ2 (setV is vs σ1) H1
  | [], [], vs, X, ρ1, σ1, e, n, q => by
    obtain ⟨rfl, rfl⟩ := e
    exact ⟨rfl, ρ1, q, n⟩
  | i :: is, .tmp m d :: as, vs, X, ρ1, σ1, e, n, q => by
    obtain ⟨v, r, X1, X2, rfl, rfl, e1, e2⟩ := e
    have e1 : X1 = [(.dat m d, some v)] := e1
    subst e1
    obtain ⟨h1, ρ2, h2, h3⟩ := parW.run (is := is) (as := as) e2 (Nx.setX n q.1) q.2
    exact ⟨by simp [h1], ρ2, h2, h3⟩
  | [], _ :: _, _, _, _, _, _, _, q => q.elim
  | _ :: _, [], _, _, _, _, _, _, q => q.elim
  | _ :: _, .loc _ :: _, _, _, _, _, _, _, q => q.elim
section
variable {cl : Str → Value} {W : WX}
theorem par2I {i j : Nat} {wa : WA} (ma : MonoG wa) : ∀ De σ H, tSS cl W (sPar [i, j] wa) De σ H → tPar i j (tA cl W wa) De σ H := fun De σ H q => by
  obtain ⟨Z, T, ρ, hl, rp, q⟩ := q
  refine ⟨Z, T, ρ, hl, rp, ma _ _ _ _ _ (fun as ρ1 q vs X1 H1 er n1 => ?_) (fun x ρ1 q H1 n => q σ H1 n) q⟩
  obtain ⟨h1, ρ2, h2, h3⟩ := parW.run er n1 q
  match vs, h1 with
  | [v, w], _ => exact ⟨v, w, rfl, h2 _ _ h3⟩
theorem par3I {i j l : Nat} {wa : WA} (ma : MonoG wa) : ∀ De σ H, tSS cl W (sPar [i, j, l] wa) De σ H → tPar3 i j l (tA cl W wa) De σ H := fun De σ H q => by
  obtain ⟨Z, T, ρ, hl, rp, q⟩ := q
  refine ⟨Z, T, ρ, hl, rp, ma _ _ _ _ _ (fun as ρ1 q vs X1 H1 er n1 => ?_) (fun x ρ1 q H1 n => q σ H1 n) q⟩
  obtain ⟨h1, ρ2, h2, h3⟩ := parW.run er n1 q
  match vs, h1 with
  | [u, v, w], _ => exact ⟨u, v, w, rfl, h2 _ _ h3⟩
end
def lineNames (sc : Scope) (line : Nat) (ts : List Expr) : List Str := ts.filterMap fun
  | .Name id pos => if sc.names.lookup id == some .local && pos.line == line then some id else none
  | _ => none
def swD (sc : Scope) (ts vs : List Expr) : Option (Option (List Str)) :=
  if sc.kind ≠ .function then none
  else if !(ts.length == 2 || ts.length == 3) || vs.length != ts.length then some none
  else if vs.any isStar then some none
  else
    let names := lineNames sc ((ts.head?.map (·.pos.line)).getD 0) ts
    if names.length != ts.length || names.eraseDups.length != names.length then some none
    else if vs.all (foldedForSure 8) then some none
    else if vs.all (constantsAlone 8) then none
    else some (some names)
theorem swD.ok {sc : Scope} {ts vs : List Expr} {env : Env} {k k2 : Nat} {p p2 : Pos} {o : Option (List Str)} (he : env.scope = sc) (h : swD sc ts vs = some o) : swappedStores [.Tuple ts k p] (.Tuple vs k2 p2) env = pure o := by
  unfold swD at h
  split at h
  · cases h
  rename_i hk
  have hk : sc.kind = .function := by simpa using hk
  have bk : env.blockKind = .function := by
    unfold Env.blockKind
    rw [he, hk]
    rfl
  have st : ∀ f : Expr → Bool, (∀ e, f e = isStar e) → vs.any f = vs.any isStar := fun f h => by
    rw [show f = isStar from funext h]
  have ln : ∀ f : Expr → Option Str, (∀ e, f e = (match e with
      | .Name id pos => if sc.names.lookup id == some .local && pos.line == ((ts.head?.map (·.pos.line)).getD 0) then some id else none
      | _ => none)) → ts.filterMap f = lineNames sc ((ts.head?.map (·.pos.line)).getD 0) ts := fun f h => by
    unfold lineNames
    congr 1
    funext e
    rw [h e]
  simp only at h
  unfold swappedStores
  simp only [bk]
  rw [st _ (by intro e; cases e <;> rfl), ln _ (by intro e; rw [← he]; cases e <;> rfl)]
  split at h
  · rename_i h1
    cases h
    have : (!(ts.length == 2 || ts.length == 3) || vs.length != ts.length || ScopeKind.function != ScopeKind.function) = true := by rw [h1]; rfl
    simp only [this, if_true]
  rename_i h1
  have e1 : (!(ts.length == 2 || ts.length == 3) || vs.length != ts.length || ScopeKind.function != ScopeKind.function) = false := by
    have h1 : (!(ts.length == 2 || ts.length == 3) || vs.length != ts.length) = false := by simpa using h1
    rw [h1]; rfl
  simp only [e1]
  split at h
  · rename_i h2
    cases h
    simp [h2]
  rename_i h2
  simp only [h2]
  split at h
  · rename_i h3
    cases h
    simp [h3]
  rename_i h3
  simp only [h3]
  split at h
  · rename_i h4
    cases h
    simp [h4]
  rename_i h4
  simp only [h4]
  split at h
  · cases h
  rename_i h5
  cases h
  simp [h5]
end G
end
section
set_option Elab.async false
set_option linter.all false
set_option maxRecDepth 100000
namespace G
open PySem PySem.Spec PyProof.Rows L2
def isCompE : Expr → Bool
  | .ListComp _ _ _ _ => true
  | .SetComp _ _ _ _ => true
  | .DictComp _ _ _ _ _ => true
  | _ => false
def isNameE : Expr → Bool
  | .Name _ _ => true
  | _ => false
def isSeqE : Expr → Bool
  | .Tuple _ _ _ => true
  | .List _ _ => true
  | _ => false
def isTupE : Expr → Bool
  | .Tuple _ _ _ => true
  | _ => false
theorem swaps_none {e : Expr} (h : isCompE e = false) (l : Nat) (env : Env) : swapsWith e none l env = pure false := by
  cases e <;> first | rfl | cases h
theorem swaps_some {e tg : Expr} (h : isCompE e = false ∨ isNameE tg = false) (l : Nat) (env : Env) : swapsWithSole [tg] e l env = pure false := by
  show swapsWith e (some tg) l env = pure false
  rcases h with h | h
  · cases e <;> first | rfl | cases h
  · cases e <;> first | rfl | (cases tg <;> first | rfl | cases h)
theorem swapped_none {e tg : Expr} (h : isTupE e = false ∨ isSeqE tg = false) (env : Env) : swappedStores [tg] e env = pure none := by
  rcases h with h | h
  · cases e <;> first | (cases tg <;> rfl) | cases h
  · cases tg <;> first | rfl | cases h
def swC (sc : Scope) (t : Str) (tl : Nat) (scope : Scope) (cl : Nat) : Bool := sc.names.lookup t == some .local && tl == cl && !(scope.names.any fun (n, k) => n == t && (k == .local || k == .cell))
theorem swC.ok {sc : Scope} {env : Env} (he : env.scope = sc) (hk : sc.kind = .function) {t : Str} {px cp : Pos} {elt : Expr} {gs : List Comprehension} {scope : Scope} (l : Nat) : swapsWith (.ListComp elt gs scope cp) (some (.Name t px)) l env = pure (swC sc t px.line scope cp.line) := by
  have bk : env.blockKind = .function := by
    unfold Env.blockKind
    rw [he, hk]
    rfl
  show pure (env.blockKind == .function && env.kindOf t == some .local && px.line == cp.line && !(scope.names.any fun (n, k) => n == t && (k == .local || k == .cell))) = _
  rw [bk]
  unfold swC
  rw [← he]
  rfl
def allV : Nat → Bool := fun _ => true
def sComp (r : Tr) (T : Tab) (x : Str) (elt tg iter : Expr) (ifs : List Expr) (scope : Scope) : WS := if T.sc.kind = .function then (match T.tgt x with
  | some i => sAsg (eComp r T elt tg iter ifs scope) (gN i)
  | none => sNever) else sNever
theorem lcI {cl : Str → Value} {W : WX} {w : WE} {t : TE} {i : Nat} (mw : MonoG w) (h : ∀ σ H Q, tE cl W w σ H Q → t σ H Q) : ∀ De σ H, tSS cl W (sAsg w (gN i)) De σ H → tAsg t (gName i) De σ H := fun De σ H q => by
  have z := asgI (Vs := allV) mw (gN.mono i) De σ H q
  obtain ⟨Z, T, ρ, hl, rp, q⟩ := q
  refine h σ H _ ⟨Z, T, ρ, hl, rp, mw _ _ _ _ _ (fun r ρ1 q v X1 H1 er n => ?_) (fun x ρ1 q H1 n => q σ H1 n) q⟩
  have er : X1 = _ := er
  subst er
  exact q.2 _ _ (n.tgt (NxG.set (Vs := allV) n.len n.rep q.1 rfl))
theorem sComp.sd {r : Tr} (s : Sd r) {T : Tab} (x : Str) (elt tg iter : Expr) (ifs : List Expr) (scope : Scope) (px cp pos : Pos) : SdS T (.Assign [.Name x px] (.ListComp elt [⟨tg, iter, ifs, 0⟩] scope cp) pos) (sComp r T x elt tg iter ifs scope) := by
  unfold sComp
  split
  · rename_i hk
    split
    · rename_i i hi
      have ec := eComp.sd s (T := T) elt tg iter ifs scope cp
      refine ⟨sAsg.mono ec.1 (gN.mono i), fun cl X W c tk po => ?_⟩
      obtain ⟨h1, h2, h3⟩ := c.loc hi
      have hN : X.N.Nodup := by rw [c.N]; exact c.nd
      have sw := swC.ok (t := x) (px := px) (cp := cp) (elt := elt) (gs := [⟨tg, iter, ifs, 0⟩]) (scope := scope) c.sc hk pos.line
      cases q : swC T.sc x px.line scope cp.line with
      | false =>
        rw [q] at sw
        exact ps_imp (ps_set hN h1 h2 (ec.2 cl X W c tk) sw h3) (lcI ec.1 fun _ _ _ z => z)
      | true =>
        rw [q] at sw
        have hy : X.env.scope.names.lookup x = some .local := by
          rw [c.sc]
          unfold swC at q
          rw [Bool.and_eq_true, Bool.and_eq_true] at q
          simpa using q.1.1
        -- the parts of the comprehension
        have it := iOf.sd s (T := T) tg iter
        have g := s.g (T.inn scope) (fun i => ((ownOf T.N scope.names).map (·.2)).contains i) tg
        have t := tsOf.sd s (T := T.inn scope) ifs
        have e := s.e (T.inn scope) elt
        unfold eComp at ec ⊢
        simp only at ec ⊢
        split
        · rename_i h
          rw [if_pos h] at ec
          rw [Bool.and_eq_true] at h
          have hs : isSetE iter = false := by simpa using h.2
          obtain ⟨qr, ok, pi⟩ := it.2 cl X W c tk
          have bk : BlkOk X.N X.env.scope scope (ownOf T.N scope.names) := by
            rw [c.N, c.sc]
            exact blkOk_by h.1
          exact ps_imp (ps_setLc c.calm hN h1 hy sw pi bk (fun s0 H C cs fp => g.2 cl _ W0 (c.blk s0 H C cs fp) Takes.none) (fun s0 H C cs fp => t.2 cl _ W0 (c.blk s0 H C cs fp) Takes.none) (fun s0 H C cs fp => e.2 cl _ W0 (c.blk s0 H C cs fp) Takes.none) (folded hs _)) (lcI ec.1 (compI it.1 g.1 t.1 e.1 ok))
        · refine ⟨fun _ _ _ _ _ _ z => ?_⟩
          obtain ⟨_, _, _, _, _, z⟩ := z
          exact z.elim
    · exact sds_bad
  · exact sds_bad
theorem sAsgP.sd {r : Tr} (s : Sd r) {T : Tab} (tg e : Expr) (pos : Pos) (h1 : isCompE e = false ∨ isNameE tg = false) (h2 : ∀ X : Cx, X.env.scope = T.sc → swappedStores [tg] e X.env = pure none) (h3 : isStar tg = false) : SdS T (.Assign [tg] e pos) (sAsg (r.e T e) (r.g T allV tg)) := by
  have a := s.e T e
  have g := s.g T allV tg
  exact ⟨sAsg.mono a.1 g.1, fun cl X W c tk po => ps_imp (ps_asg (a.2 cl X W c tk) (g.2 cl X W c tk) (swaps_some h1 _ _) (h2 X c.sc) (by rw [asg1 h3]; rfl)) (asgI a.1 g.1)⟩
def sTT (r : Tr) (T : Tab) (ts : List Expr) (k : Nat) (p : Pos) (vs : List Expr) (k2 : Nat) (p2 : Pos) : WS := match swD T.sc ts vs with
  | some none => sAsg (r.e T (.Tuple vs k2 p2)) (r.g T allV (.Tuple ts k p))
  | some (some ns) => (match ts, vs with
    | [.Name x _, .Name y _], [a, b] => (match T.tgt x, T.tgt y with
      | some i, some j => if i ≠ j ∧ ns = [x, y] ∧ T.sc.names.lookup x = some .local ∧ T.sc.names.lookup y = some .local then sPar [i, j] (dOf r T [a, b]) else sNever
      | _, _ => sNever)
    | [.Name x _, .Name y _, .Name z _], [a, b, c] => (match T.tgt x, T.tgt y, T.tgt z with
      | some i, some j, some l => if (i ≠ j ∧ i ≠ l ∧ j ≠ l) ∧ ns = [x, y, z] ∧ T.sc.names.lookup x = some .local ∧ T.sc.names.lookup y = some .local ∧ T.sc.names.lookup z = some .local then sPar [i, j, l] (dOf r T [a, b, c]) else sNever
      | _, _, _ => sNever)
    | _, _ => sNever)
  | none => sNever
theorem sTT.sd {r : Tr} (s : Sd r) {T : Tab} (ts : List Expr) (k : Nat) (p : Pos) (vs : List Expr) (k2 : Nat) (p2 pos : Pos) : SdS T (.Assign [.Tuple ts k p] (.Tuple vs k2 p2) pos) (sTT r T ts k p vs k2 p2) := by
  unfold sTT
  split
  · rename_i h
    exact sAsgP.sd s _ _ _ (.inl rfl) (fun X hX => swD.ok hX h) rfl
  · rename_i ns h
    split
    · rename_i x px y py a b
      split
      · rename_i i j hi hj
        split
        · rename_i hc
          obtain ⟨hij, rfl, hx, hy⟩ := hc
          have d := dOf.sd s (T := T) [a, b]
          refine ⟨sPar.mono d.1, fun cl X W c tk po => ps_imp (ps_par c.calm (by rw [c.N]; exact c.nd) (c.loc hi).1 (c.loc hj).1 hij (by rw [c.sc]; exact hx) (by rw [c.sc]; exact hy) (d.2 cl X W c tk) (swD.ok c.sc h)) (par2I d.1)⟩
        · exact sds_bad
      · exact sds_bad
    · rename_i x px y py z pz a b cc
      split
      · rename_i i j l hi hj hl
        split
        · rename_i hc
          obtain ⟨⟨hij, hil, hjl⟩, rfl, hx, hy, hz⟩ := hc
          have d := dOf.sd s (T := T) [a, b, cc]
          refine ⟨sPar.mono d.1, fun cl X W c tk po => ps_imp (ps_par3 c.calm (by rw [c.N]; exact c.nd) (c.loc hi).1 (c.loc hj).1 (c.loc hl).1 hij hil hjl (by rw [c.sc]; exact hx) (by rw [c.sc]; exact hy) (by rw [c.sc]; exact hz) (d.2 cl X W c tk) (swD.ok c.sc h)) (par3I d.1)⟩
        · exact sds_bad
      · exact sds_bad
    · exact sds_bad
  · exact sds_bad
def asgOf (r : Tr) (T : Tab) (tg e : Expr) : WS := match tg, e with
  | .Name x _, .ListComp elt [⟨tg', it, ifs, 0⟩] scope _ => sComp r T x elt tg' it ifs scope
  | .Tuple ts k p, .Tuple vs k2 p2 => sTT r T ts k p vs k2 p2
  | tg, e => if (isCompE e && isNameE tg) || (isTupE e && isSeqE tg) || isStar tg then sNever else sAsg (r.e T e) (r.g T allV tg)
theorem asgOf.sd {r : Tr} (s : Sd r) {T : Tab} (tg e : Expr) (pos : Pos) : SdS T (.Assign [tg] e pos) (asgOf r T tg e) := by
  unfold asgOf
  split
  · exact sComp.sd s _ _ _ _ _ _ _ _ _
  · exact sTT.sd s _ _ _ _ _ _ _
  · split
    · exact sds_bad
    · rename_i h
      have h : ((isCompE e && isNameE tg) || (isTupE e && isSeqE tg) || isStar tg) = false := by simpa using h
      rw [Bool.or_eq_false_iff, Bool.or_eq_false_iff] at h
      obtain ⟨⟨h1, h2⟩, h3⟩ := h
      refine sAsgP.sd s _ _ _ ?_ (fun X _ => swapped_none ?_ _) h3
      · rcases Bool.and_eq_false_iff.mp h1 with h | h
        · exact .inl h
        · exact .inr h
      · rcases Bool.and_eq_false_iff.mp h2 with h | h
        · exact .inl h
        · exact .inr h
def fAddI : P2 := fun a b Q => match a.2, b.2 with
  | .int i, .int j => Q (.sh, .int (i + j))
  | _, _ => False
def fMulI : P2 := fun a b Q => match a.2, b.2 with
  | .int i, .int j => MulOk i j ∧ Q (.sh, .int (i * j))
  | _, _ => False
theorem fAddI.mono : Mono2 fAddI := fun a b Q Q' h q => by
  unfold fAddI at q ⊢
  split at q
  · exact h _ q
  · exact q.elim
theorem fAddI.ok : POk2 (rI0 fun i j => .int (i + j)) fAddI := by
  rintro O H ⟨m, a⟩ ⟨n, b⟩ x y Qd Q off va vb q k
  unfold fAddI at q
  split at q
  · rename_i i j e1 e2; cases e1; cases e2; cases va.int; cases vb.int
    exact ⟨i, j, rfl, rfl, k _ _ _ _ q (.val dv_int)⟩
  · exact q.elim
theorem fMulI.mono : Mono2 fMulI := fun a b Q Q' h q => by
  unfold fMulI at q ⊢
  split at q
  · exact ⟨q.1, h _ q.2⟩
  · exact q.elim
theorem fMulI.ok : POk2 (rI MulOk fun i j => .int (i * j)) fMulI := by
  rintro O H ⟨m, a⟩ ⟨n, b⟩ x y Qd Q off va vb q k
  unfold fMulI at q
  split at q
  · rename_i i j e1 e2; cases e1; cases e2; cases va.int; cases vb.int
    exact ⟨i, j, rfl, rfl, q.1, k _ _ _ _ q.2 (.val dv_int)⟩
  · exact q.elim
def fAug : Operator → Option P2
  | .Add => some fAddI
  | .Sub => some fSub
  | .Mult => some fMulI
  | .FloorDiv => some fDiv
  | _ => none
theorem fAug.ok {op : Operator} {f : P2} (h : fAug op = some f) : Mono2 f ∧ ∀ X : Cx, ∃ r, POk2 r f ∧ PIp X op r := by
  cases op with
  | Add => cases h; exact ⟨fAddI.mono, fun X => ⟨_, fAddI.ok, iop_add⟩⟩
  | Sub => cases h; exact ⟨fSub.mono, fun X => ⟨_, fSub.ok, iop_sub⟩⟩
  | Mult => cases h; exact ⟨fMulI.mono, fun X => ⟨_, fMulI.ok, opI fun _ _ _ _ _ _ _ hc q => imul_int q hc⟩⟩
  | FloorDiv => cases h; exact ⟨fDiv.mono, fun X => ⟨_, fDiv.ok, iop_fdivW⟩⟩
  | _ => cases h
def augOf (r : Tr) (T : Tab) (tg : Expr) (op : Operator) (e : Expr) : WS := match tg with
  | .Name x _ => (match T.tgt x, fAug op with
    | some i, some f => sAug i f (oOf r T e)
    | _, _ => sNever)
  | _ => sNever
theorem augOf.sd {r : Tr} (s : Sd r) {T : Tab} (tg : Expr) (op : Operator) (e : Expr) (pos : Pos) : SdS T (.AugAssign tg op e pos) (augOf r T tg op e) := by
  unfold augOf
  split
  · split
    · rename_i x p _ _ i f hi hf
      have o := oOf.sd s (T := T) e
      refine ⟨sAug.mono (fAug.ok hf).1 o.1, fun cl X W c tk po => ?_⟩
      obtain ⟨q, ok, hp⟩ := (fAug.ok hf).2 X
      obtain ⟨h1, h2, h3⟩ := c.loc hi
      exact ps_imp (ps_aug (by rw [c.N]; exact c.nd) h1 h2 (o.2 cl X W c tk) hp h3) (augI o.1 (fAug.ok hf).1 ok)
    · exact sds_bad
  · exact sds_bad
def retOf (r : Tr) (T : Tab) (e : Expr) : WE := match e with
  | .Name x _ => (match T.slot x with
    | some i => wMove i
    | none => r.e T e)
  | _ => r.e T e
theorem retOf.sd {r : Tr} (s : Sd r) {T : Tab} (e : Expr) : SdE T e (retOf r T e) := by
  unfold retOf
  split
  · split
    · rename_i i h
      exact ⟨wMove.mono i, fun _ _ _ c _ => pe_wMove (c.vis h)⟩
    · exact s.e T _
  · exact s.e T _
def sRaise (x : Str) : WS := fun ρ D => D.ex x ρ
theorem sRaise.mono (x : Str) : MonoS (sRaise x) := fun ρ D D' h q => h.ex _ _ q
def raiseOf (T : Tab) : Expr → Option Str
  | .Call (.Name x _) [.Constant (.str _) _ _] [] _ => if T.exs.contains x && T.glo x then some x else none
  | _ => none
theorem raiseOf.sd {T : Tab} {e : Expr} {x : Str} (h : raiseOf T e = some x) (pos : Pos) : SdS T (.Raise (some e) none pos) (sRaise x) := by
  unfold raiseOf at h
  split at h
  · rename_i y p m j p2 pos2
    split at h
    · rename_i hc
      cases h
      rw [Bool.and_eq_true] at hc
      refine ⟨sRaise.mono _, fun cl X W c tk po => ?_⟩
      obtain ⟨C, h1, h2, h3, h4, h5, h6⟩ := c.xs x (List.contains_iff_mem.mp hc.1)
      obtain ⟨g, hd⟩ := c.glob hc.2
      refine ps_imp (ps_raise c.calm tk (pmk_own PySem.F.excBase_ValueError h3 h2 h4 (raises_own h5 h6) g hd)) fun De σ H z => ?_
      obtain ⟨Z, T', ρ, hl, r, z⟩ := z
      have z := z σ H (Nx.refl hl r)
      rw [h1] at z
      exact z
    · cases h
  · cases h
def isText : Expr → Bool
  | .Constant (.str _) _ _ => true
  | _ => false
def sOf (r : Tr) (T : Tab) (st : Stmt) : WS := match st with
  | .Expr e _ => if isText e then sNext else if isCompE e then sNever else sExpr (r.e T e)
  | .Return none _ => sRetN
  | .Return (some e) _ => sRet (retOf r T e)
  | .Assign [tg] e _ => asgOf r T tg e
  | .AugAssign tg op e _ => augOf r T tg op e
  | .If c a b _ => sIf (r.t T c) (r.ss T a) (r.ss T b)
  | .While c b [] _ => sWhile (r.t T c) (r.ss T b)
  | .For tg it b [] _ => if isSetE it then sNever else sFor (iOf r T tg it).1 (iOf r T tg it).2 (r.g T allV tg) (r.ss T b)
  | .Pass _ => sNext
  | .Break _ => sBreak
  | .Continue _ => sCont
  | .Raise (some e) none _ => (match raiseOf T e with
    | some x => sRaise x
    | none => sNever)
  | _ => sNever
theorem nextI {cl : Str → Value} {W : WX} : ∀ De σ H, tSS cl W sNext De σ H → tNext De σ H := fun De σ H z => by
  obtain ⟨Z, T, ρ, hl, r, z⟩ := z
  exact z σ H (Nx.refl hl r)
theorem sOf.sd {r : Tr} (s : Sd r) {T : Tab} (st : Stmt) : SdS T st (sOf r T st) := by
  unfold sOf
  split
  · rename_i e p
    split
    · rename_i h
      refine ⟨sNext.mono, fun cl X W c tk po => ?_⟩
      cases e with
      | Constant k n q =>
        cases k with
        | str x => exact ps_imp ps_doc nextI
        | _ => cases h
      | _ => cases h
    · split
      · exact sds_bad
      · rename_i h
        have a := s.e T e
        exact ⟨sExpr.mono a.1, fun cl X W c tk po => ps_imp (ps_expr (a.2 cl X W c tk) (swaps_none (by simpa using h) _ _)) (exprI a.1)⟩
  · exact ⟨sRetN.mono, fun cl X W c tk po => ps_imp ps_retN retNI⟩
  · rename_i e p
    have a := retOf.sd s (T := T) e
    exact ⟨sRet.mono a.1, fun cl X W c tk po => ps_imp (ps_ret (a.2 cl X W c tk)) (retI a.1)⟩
  · exact asgOf.sd s _ _ _
  · exact augOf.sd s _ _ _ _
  · rename_i c a b p
    have t := s.t T c
    have ha := s.ss T a
    have hb := s.ss T b
    exact ⟨sIf.mono t.1 ha.1 hb.1, fun cl X W cx tk po => ps_imp (ps_if (t.2 cl X W cx tk) (ha.2 cl X W cx tk po) (hb.2 cl X W cx tk po)) (ifI t.1 ha.1 hb.1)⟩
  · rename_i c b p
    have t := s.t T c
    have hb := s.ss T b
    exact ⟨sWhile.mono t.1 hb.1, fun cl X W cx tk po => ps_imp (ps_while po (t.2 cl X W cx tk) (hb.2 cl X W cx tk po)) (whileI t.1 hb.1)⟩
  · rename_i tg it b p
    split
    · exact sds_bad
    · rename_i h
      have i := iOf.sd s (T := T) tg it
      have g := s.g T allV tg
      have hb := s.ss T b
      refine ⟨sFor.mono i.1 g.1 hb.1, fun cl X W cx tk po => ?_⟩
      obtain ⟨q, ok, pi⟩ := i.2 cl X W cx tk
      exact ps_imp (ps_for po cx.calm pi (g.2 cl X W cx tk) (hb.2 cl X W cx tk po) (folded (by simpa using h) _)) (forI i.1 g.1 hb.1 ok)
  · exact ⟨sNext.mono, fun cl X W c tk po => ps_imp ps_pass nextI⟩
  · exact ⟨sBreak.mono, fun cl X W c tk po => ps_imp ps_break breakI⟩
  · exact ⟨sCont.mono, fun cl X W c tk po => ps_imp ps_continue contI⟩
  · rename_i e p
    split
    · rename_i x h
      exact raiseOf.sd h p
    · exact sds_bad
  · exact sds_bad
def ssStep (r : Tr) (T : Tab) : List Stmt → WS
  | [] => sNext
  | [st] => sOf r T st
  | st :: rest => sSeq (sOf r T st) (ssStep r T rest)
theorem ssStep.sd {r : Tr} (s : Sd r) {T : Tab} : ∀ ss : List Stmt, SdSs T ss (ssStep r T ss)
  | [] => ⟨sNext.mono, fun _ _ _ _ _ _ => pss_sNext⟩
  | [st] => ⟨(sOf.sd s st).1, fun cl X W c tk po => pss_one ((sOf.sd s st).2 cl X W c tk po)⟩
  | st :: b :: rest => by
    have h := ssStep.sd s (T := T) (b :: rest)
    have a := sOf.sd s (T := T) st
    exact ⟨sSeq.mono a.1 h.1, fun cl X W c tk po => pss_imp (pss_cons (a.2 cl X W c tk po) (h.2 cl X W c tk po)) (seqI a.1 h.1)⟩
def trN : Nat → Tr
  | 0 => Tr0
  | n + 1 => ⟨eStep (trN n), tStep (trN n), gOf (trN n), ssStep (trN n)⟩
theorem trN.sd : ∀ n, Sd (trN n)
  | 0 => Tr0.sd
  | n + 1 => ⟨eStep.sd (trN.sd n), tStep.sd (trN.sd n), fun T Vs e => gOf.sd (trN.sd n) e, fun T ss => ssStep.sd (trN.sd n) ss⟩
theorem ctx_top {P : Program} {w : World} {K : PySem.W.Frag} {mg : Str → Option Value} {base : Heap} {N : List Str} {qual : Str} {scope : Scope} {f : Addr} {cdv : Value} {A : Around} {outer : List Env} {s : Shared} {H : Hp} {E : XK} {C : CXT} {k : Nat} {cl : Str → Value}
    (fns : List (Str × FEnt)) (glb : List (Str × D)) (hn : N.Nodup) (hr : Room k (A.deeper (envOfC qual scope s.heap.objs.size f cdv))) (hgd : A.guards = some [])
    (hf : ∀ x e, fns.lookup x = some e → FnHas cl (cxOf C P w K mg base N qual scope f cdv A outer s H E) x e)
    (hg : ∀ x d, glb.lookup x = some d → ∃ u v, mg x = some u ∧ RelV v u ∧ ∀ H O, DV H O d v) (hb : ∀ x ∈ bltNames, mg x = none) {exs : List Str} (hx : ∀ x ∈ exs, ExcHas K mg cl x) :
    Ctx ⟨N, scope, fns, glb, fun _ => true, knownL K, exs⟩ cl (cxOf C P w K mg base N qual scope f cdv A outer s H E) :=
  ⟨rfl, hn, rfl, rfl, hgd, hr.units, rfl, fun _ _ => .inl rfl, hf, hg, hb, hx⟩
def FnAll (P : Program) (w : World) (K : PySem.W.Frag) (mg : Str → Option Value) (base : Heap) (cl : Str → Value) (k : Nat) (x : Str) (e : FEnt) : Prop := ∃ (f : Addr) (fd : FuncData), FnG P w K mg base (L2.CX P w) k f fd e.ps (spOf cl e.S) ∧ mg x = some (.ref f) ∧ PySem.W.keepIn K (.ref f) = true ∧ Binds K fd e.ps [] ∧ (e.kw = true → KRev K fd e.ps e.ps.reverse)
theorem FnAll.mono {P : Program} {w : World} {K : PySem.W.Frag} {mg : Str → Option Value} {base : Heap} {cl : Str → Value} {j k : Nat} {x : Str} {e : FEnt} (F : FnAll P w K mg base cl j x e) (h : j ≤ k) : FnAll P w K mg base cl k x e := by
  obtain ⟨f, fd, h1, h2⟩ := F
  exact ⟨f, fd, h1.mono h, h2⟩
theorem def_okG {P : Program} {w : World} {K : PySem.W.Frag} {mg : Str → Option Value} {base : Heap} {cl : Str → Value} {k n : Nat} {x qual : Str} {params : Arguments} {body : List Stmt} {scope : Scope} {f : Addr} {fd : FuncData} {N : List Str} {e : FEnt} {fns : List (Str × FEnt)} {glb : List (Str × D)} {exs : List Str} {ws : WS}
    (F : FunD K x qual params body scope [] [] f fd) (S : FnScope N e.ps scope) (har : e.S.ar = e.ps.length) (hle : e.ps.length ≤ N.length)
    (hf : ∀ y d, fns.lookup y = some d → FnAll P w K mg base cl k y d)
    (hg : ∀ y d, glb.lookup y = some d → ∃ u v, mg y = some u ∧ RelV v u ∧ ∀ H O, DV H O d v) (hb : ∀ y ∈ bltNames, mg y = none) (hx : ∀ x ∈ exs, ExcHas K mg cl x)
    (tr : (trN n).ss ⟨N, scope, fns, glb, fun _ => true, knownL K, exs⟩ body = ws) (vc : VC e.S N.length ws) : FnG P w K mg base (L2.CX P w) (k + 1) f fd e.ps (spOf cl e.S) := by
  refine fnG_of F S (fun vs H Q E h => by rw [h.1]; exact har) fun cdv A outer s H vs Q E hr hgd h => ?_
  have sd := (trN.sd n).ss ⟨N, scope, fns, glb, fun _ => true, knownL K, exs⟩ body
  rw [tr] at sd
  have tk : Takes (cxOf (L2.CX P w) P w K mg base N qual scope f cdv A outer s H E) (fun c d _ H' => E c d H') := takes_of rfl rfl rfl rfl
  refine ⟨_, sd.2 cl _ _ (ctx_top fns glb S.nd hr hgd (fun y d hy => ?_) hg hb hx) tk ?_, body_ok sd.1 (by rw [har]; exact hle) vc (fun _ _ _ z => z) h⟩
  · obtain ⟨f', fd', h1, h2, h3, h4, h5⟩ := hf y d hy
    exact ⟨k, f', fd', h1, hr, h2, h3, h4, h5⟩
  · exact PassesOwn.leaving
theorem def_ok {P : Program} {w : World} {K : PySem.W.Frag} {mg : Str → Option Value} {base : Heap} {cl : Str → Value} {k n : Nat} {x qual : Str} {params : Arguments} {body : List Stmt} {scope : Scope} {f : Addr} {fd : FuncData} {N : List Str} {e : FEnt} {fns : List (Str × FEnt)} {glb : List (Str × D)} {exs : List Str} {ws : WS}
    (F : FunD K x qual params body scope [] [] f fd) (S : FnScope N e.ps scope) (har : e.S.ar = e.ps.length) (hle : e.ps.length ≤ N.length)
    (hf : ∀ y d, fns.lookup y = some d → FnAll P w K mg base cl k y d)
    (hg : ∀ y d, glb.lookup y = some d → ∃ u v, mg y = some u ∧ RelV v u ∧ ∀ H O, DV H O d v) (hb : ∀ y ∈ bltNames, mg y = none) (hx : ∀ x ∈ exs, ExcHas K mg cl x)
    (tr : (trN n).ss ⟨N, scope, fns, glb, fun _ => true, knownL K, exs⟩ body = ws) (vc : VC e.S N.length ws)
    (hmg : mg x = some (.ref f))
    (hbd : Binds K fd e.ps []) (hkr : e.kw = true → KRev K fd e.ps e.ps.reverse) : FnAll P w K mg base cl (k + 1) x e :=
  ⟨f, fd, def_okG F S har hle hf hg hb hx tr vc, hmg, F.kp, hbd, hkr⟩
end G
end
section
set_option Elab.async false
set_option linter.all false
set_option maxRecDepth 100000
namespace G
open PySem PySem.Spec L2
theorem iteB {c : Bool} {A B : Prop} (h1 : c = true → A) (h2 : c = false → B) : if c = true then A else B := by
  cases c with
  | true => exact h1 rfl
  | false => exact h2 rfl
theorem iteD {p : Prop} [Decidable p] {A B : Prop} (h1 : p → A) (h2 : ¬ p → B) : if decide p = true then A else B := by
  by_cases h : p
  · rw [decide_eq_true h]; exact h1 h
  · rw [decide_eq_false h]; exact h2 h
theorem seqK {a b : WS} {ρ : Rh} {ed : Ed} (h : ∀ K : Rh → Prop, (∀ ρ', b ρ' ed → K ρ') → a ρ { nx := K, rt := ed.rt, bk := ed.bk, ct := ed.ct, ex := ed.ex }) : sSeq a b ρ ed := h _ fun _ z => z
theorem whileBy {α : Type} {t : WT} {b : WS} {ρ : Rh} {D : Ed} (st : α → Rh) (P : α → Prop) (m : α → Nat) (a0 : α) (h0 : ρ = st a0) (hp : P a0)
    (h : ∀ a, P a → t (st a) (fun x ρ2 => if x = true then b ρ2 { D with nx := fun ρ3 => ∃ k, k < m a ∧ ∃ a', ρ3 = st a' ∧ P a' ∧ k = m a', ct := fun ρ3 => ∃ k, k < m a ∧ ∃ a', ρ3 = st a' ∧ P a' ∧ k = m a', bk := D.nx } else D.nx ρ2) D.ex) : sWhile t b ρ D := by
  subst h0
  refine ⟨fun k ρ => ∃ a, ρ = st a ∧ P a ∧ k = m a, ⟨_, a0, rfl, hp, rfl⟩, ?_⟩
  rintro _ _ ⟨a, rfl, hP, rfl⟩
  exact h a hP
theorem forBy {g : WGt} {b : WS} {ed : Ed} (P : Nat → Rh → Prop) : ∀ (items : List D) (i : Nat) (ρ : Rh), P i ρ →
    (∀ (j : Nat) (d : D) (ρ : Rh) (N : Rh → Prop), items[j]? = some d → P (i + j) ρ → (∀ ρ', P (i + j + 1) ρ' → N ρ') → g (.sh, d) ρ (fun ρ1 => b ρ1 { ed with nx := N, ct := N, bk := ed.nx }) ed.ex) →
    (∀ ρ, P (i + items.length) ρ → ed.nx ρ) → forW g b items ρ ed
  | [], i, ρ, hp, _, h => h ρ hp
  | d :: ds, i, ρ, hp, hb, h => by
    unfold forW
    refine hb 0 d ρ (fun ρ' => forW g b ds ρ' ed) rfl hp fun ρ' hp' => ?_
    refine forBy P ds (i + 1) ρ' hp' (fun j d' ρ2 N hj hP hN => ?_) fun ρ2 h2 => h ρ2 ?_
    · have e : i + 1 + j = i + (j + 1) := by omega
      rw [e] at hP hN
      exact hb (j + 1) d' ρ2 N hj hP hN
    · have e : i + 1 + ds.length = i + (d :: ds).length := by simp; omega
      rw [← e]; exact h2
theorem forBy0 {g : WGt} {b : WS} {ed : Ed} (P : Nat → Rh → Prop) {items : List D} {ρ : Rh} (h0 : P 0 ρ)
    (hb : ∀ (j : Nat) (d : D) (ρ : Rh) (N : Rh → Prop), items[j]? = some d → P j ρ → (∀ ρ', P (j + 1) ρ' → N ρ') → g (.sh, d) ρ (fun ρ1 => b ρ1 { ed with nx := N, ct := N, bk := ed.nx }) ed.ex)
    (h : ∀ ρ, P items.length ρ → ed.nx ρ) : forW g b items ρ ed :=
  forBy P items 0 ρ h0 (fun j d ρ N => by rw [Nat.zero_add]; exact hb j d ρ N) (by rw [Nat.zero_add]; exact h)
def turnW (g : WGt) (t : WT) (e : WE) (vs : List Nat) (d : D) (ρ : Rh) (acc : List D) (N : List D → Rh → Prop) : Prop :=
  g (.sh, d) ρ (fun ρ1 => t ρ1 (fun b ρ2 => if b = true then e ρ2 (fun r ρ3 => okR r.1 ∧ acc.length < sizeLine ∧ N (acc ++ [r.2]) (wipeR ρ3 vs)) noX else N acc (wipeR ρ2 vs)) noX) noX
theorem compBy {g : WGt} {t : WT} {e : WE} {vs : List Nat} {Q : List D → Rh → Prop} (P : Nat → List D → Rh → Prop) : ∀ (items : List D) (i : Nat) (acc : List D) (ρ : Rh), P i acc ρ →
    (∀ (j : Nat) (d : D) (acc : List D) (ρ : Rh) (N : List D → Rh → Prop), items[j]? = some d → P (i + j) acc ρ → (∀ a ρ', P (i + j + 1) a ρ' → N a ρ') → turnW g t e vs d ρ acc N) →
    (∀ acc ρ, P (i + items.length) acc ρ → Q acc ρ) → compW g t e vs items ρ acc Q
  | [], i, acc, ρ, hp, _, h => h acc ρ hp
  | d :: ds, i, acc, ρ, hp, hb, h => by
    unfold compW
    refine hb 0 d acc ρ (fun a ρ' => compW g t e vs ds ρ' a Q) rfl hp fun a ρ' hp' => ?_
    refine compBy P ds (i + 1) a ρ' hp' (fun j d' a2 ρ2 N hj hP hN => ?_) fun a2 ρ2 h2 => h a2 ρ2 ?_
    · have e : i + 1 + j = i + (j + 1) := by omega
      rw [e] at hP hN
      exact hb (j + 1) d' a2 ρ2 N hj hP hN
    · have e : i + 1 + ds.length = i + (d :: ds).length := by simp; omega
      rw [← e]; exact h2
theorem compBy0 {g : WGt} {t : WT} {e : WE} {vs : List Nat} {Q : List D → Rh → Prop} (P : Nat → List D → Rh → Prop) {items : List D} {ρ : Rh} (h0 : P 0 [] ρ)
    (hb : ∀ (j : Nat) (d : D) (acc : List D) (ρ : Rh) (N : List D → Rh → Prop), items[j]? = some d → P j acc ρ → (∀ a ρ', P (j + 1) a ρ' → N a ρ') → turnW g t e vs d ρ acc N)
    (h : ∀ acc ρ, P items.length acc ρ → Q acc ρ) : compW g t e vs items ρ [] Q :=
  compBy P items 0 [] ρ h0 (fun j d a ρ N => by rw [Nat.zero_add]; exact hb j d a ρ N) (by rw [Nat.zero_add]; exact h)
theorem compPure {g : WGt} {t : WT} {e : WE} {vs : List Nat} {Q : List D → Rh → Prop} (F : D → Option D) {items : List D} {ρ : Rh} (hl : items.length ≤ sizeLine)
    (hb : ∀ (d : D) (acc : List D) (N : List D → Rh → Prop), d ∈ items → acc.length < sizeLine → N (acc ++ (F d).toList) ρ → turnW g t e vs d ρ acc N)
    (h : Q (items.filterMap F) ρ) : compW g t e vs items ρ [] Q := by
  refine compBy0 (fun i acc ρ' => ρ' = ρ ∧ acc = (items.take i).filterMap F) ⟨rfl, by simp⟩ ?_ ?_
  · rintro j d acc ρ' N hj ⟨rfl, rfl⟩ hN
    have hjl := (List.getElem?_eq_some_iff.mp hj).1
    refine hb d _ N (List.mem_of_getElem? hj) ?_ (hN _ _ ⟨rfl, ?_⟩)
    · have h1 : ((items.take j).filterMap F).length ≤ (items.take j).length := List.length_filterMap_le _ _
      have h2 : (items.take j).length ≤ j := by simp; omega
      omega
    · rw [List.take_add_one, List.filterMap_append, hj]
      simp [List.filterMap_cons]
      cases F d <;> rfl
  · rintro acc ρ' ⟨rfl, rfl⟩
    simpa using h
end G
end
section
set_option Elab.async false
set_option linter.all false
set_option maxRecDepth 100000
namespace G
open PySem PySem.Spec L2
class KC where
  q : R → Rh → Prop
  e : XQ
class KB where
  a : Prop
  b : Prop
class KF where
  g : WGt
  b : WS
  d : Ed
class KM where
  g : WGt
  t : WT
  e : WE
  q : R → Rh → Prop
class KW where
  t : WT
  b : WS
  d : Ed
class KS where
  a : WS
  b : WS
  d : Ed
def SeqP (ρ : Rh) [k : KS] : Prop := sSeq k.a k.b ρ k.d
def CallR (S : FSpec) (as : List Ar) (rs : List R) (ρ1 ρh : Rh) [k : KC] : Prop :=
  rs.length = S.ar ∧ S.run rs (fun r outs => okR r.1 ∧ k.q r (backA as (putB rs outs) ρ1 ρh)) (fun x outs => k.e x (backA as (putB rs outs) ρ1 ρh))
def brP (x : Bool) [k : KB] : Prop := if x = true then k.a else k.b
def ForP (f : FI) (rs : List R) (ls : List Nat) (ρ1 : Rh) [k : KF] : Prop := ∃ items, f rs items ∧ forW k.g k.b items (lend ls ρ1) (homeD ls ρ1 k.d)
def CompP (f : FI) (rs : List R) (ls : List Nat) (vs : List Nat) (ρ1 : Rh) [k : KM] : Prop :=
  ∃ items, f rs items ∧ compW k.g k.t k.e vs items (wipeR (lend ls ρ1) vs) [] fun acc ρ' => k.q (.ow, .lst acc) (home ls ρ1 (unwipe (lend ls ρ1) vs ρ'))
def WhileP (ρ : Rh) [k : KW] : Prop := sWhile k.t k.b ρ k.d
section
variable {S : FSpec} {as as' : List Ar} {rs rs' : List R} {ρ ρ' ρ1 ρ1' ρh ρh' : Rh} {Q : R → Rh → Prop} {E : XQ} {x x' : Bool} {A B : Prop} {f : FI} {ls ls' : List Nat} {g : WGt} {b : WS} {D : Ed} {t : WT} {e : WE} {vs : List Nat}
theorem brP_true : @brP true ⟨A, B⟩ = A := rfl
theorem brP_false : @brP false ⟨A, B⟩ = B := rfl
theorem wCall_eq (wa : WA) : wCall S wa ρ Q E = wa ρ (fun as ρ1 => match callA S.pm as ρ1 with | some (rs, ρh) => @CallR S as rs ρ1 ρh ⟨Q, E⟩ | none => False) E := rfl
theorem sIf_eq (a : WS) : sIf t a b ρ D = t ρ (fun x ρ1 => @brP x ⟨a ρ1 D, b ρ1 D⟩) D.ex := rfl
theorem wIf_eq {a c : WE} : wIf t a c ρ Q E = t ρ (fun x ρ1 => @brP x ⟨a ρ1 Q E, c ρ1 Q E⟩) E := rfl
theorem wAndT_eq {a c : WT} {P : Bool → Rh → Prop} : wAndT a c ρ P E = a ρ (fun x ρ1 => @brP x ⟨c ρ1 P E, P false ρ1⟩) E := rfl
theorem wOrT_eq {a c : WT} {P : Bool → Rh → Prop} : wOrT a c ρ P E = a ρ (fun x ρ1 => @brP x ⟨P true ρ1, c ρ1 P E⟩) E := rfl
theorem wAndE_eq {a c : WE} : wAndE a c ρ Q E = a ρ (fun r ρ1 => match r.2 with
  | .bl x => @brP x ⟨c ρ1 Q E, Q (.sh, .bl false) ρ1⟩
  | _ => False) E := rfl
theorem wOrE_eq {a c : WE} : wOrE a c ρ Q E = a ρ (fun r ρ1 => match r.2 with
  | .bl x => @brP x ⟨Q (.sh, .bl true) ρ1, c ρ1 Q E⟩
  | _ => False) E := rfl
theorem sFor_eq {wa : WA} : sFor f wa g b ρ D = wa ρ (fun as ρ1 => match ress ρ1 as with
  | some rs => @ForP f rs (locs as) ρ1 ⟨g, b, D⟩
  | none => False) D.ex := rfl
theorem wComp_eq {wa : WA} : wComp f wa g t e vs ρ Q E = wa ρ (fun as ρ1 => match ress ρ1 as with
  | some rs => @CompP f rs (locs as) vs ρ1 ⟨g, t, e, Q⟩
  | none => False) E := rfl
theorem turnW_eq {d : G.D} {acc : List G.D} {N : List G.D → Rh → Prop} : turnW g t e vs d ρ acc N = g (.sh, d) ρ (fun ρ1 => t ρ1 (fun b ρ2 => @brP b ⟨e ρ2 (fun r ρ3 => okR r.1 ∧ acc.length < sizeLine ∧ N (acc ++ [r.2]) (wipeR ρ3 vs)) noX, N acc (wipeR ρ2 vs)⟩) noX) noX := rfl
theorem sSeq_eq {a : WS} : sSeq a b ρ D = @SeqP ρ ⟨a, b, D⟩ := rfl
theorem seqP {a : WS} (h : ∀ K : Rh → Prop, (∀ ρ', b ρ' D → K ρ') → a ρ { nx := K, rt := D.rt, bk := D.bk, ct := D.ct, ex := D.ex }) : @SeqP ρ ⟨a, b, D⟩ := h _ fun _ z => z
theorem seqGo {a : WS} (h : a ρ { nx := fun ρ' => b ρ' D, rt := D.rt, bk := D.bk, ct := D.ct, ex := D.ex }) : @SeqP ρ ⟨a, b, D⟩ := h
theorem sWhile_eq : sWhile t b ρ D = @WhileP ρ ⟨t, b, D⟩ := rfl
theorem brD {p : Prop} [Decidable p] (h1 : p → A) (h2 : ¬ p → B) : @brP (decide p) ⟨A, B⟩ := iteD h1 h2
theorem brN {p : Prop} [Decidable p] (h1 : ¬ p → A) (h2 : p → B) : @brP (!decide p) ⟨A, B⟩ := by
  by_cases h : p
  · have e : (!decide p) = false := by simp [h]
    rw [e]; exact h2 h
  · have e : (!decide p) = true := by simp [h]
    rw [e]; exact h1 h
theorem brB (h1 : x = true → A) (h2 : x = false → B) : @brP x ⟨A, B⟩ := iteB h1 h2
theorem brT (h : x = true) (h1 : A) : @brP x ⟨A, B⟩ := by subst h; exact h1
theorem brF (h : x = false) (h1 : B) : @brP x ⟨A, B⟩ := by subst h; exact h1
end
theorem d_sSeq : type_of% @sSeq.eq_def := @sSeq.eq_def
theorem d_sAsg : type_of% @sAsg.eq_def := @sAsg.eq_def
theorem d_sExpr : type_of% @sExpr.eq_def := @sExpr.eq_def
theorem d_sRet : type_of% @sRet.eq_def := @sRet.eq_def
theorem d_sRetN : type_of% @sRetN.eq_def := @sRetN.eq_def
theorem d_sNext : type_of% @sNext.eq_def := @sNext.eq_def
theorem d_sAug : type_of% @sAug.eq_def := @sAug.eq_def
theorem d_sPar : type_of% @sPar.eq_def := @sPar.eq_def
theorem d_sBreak : type_of% @sBreak.eq_def := @sBreak.eq_def
theorem d_sCont : type_of% @sCont.eq_def := @sCont.eq_def
theorem d_wTB : type_of% @wTB.eq_def := @wTB.eq_def
theorem d_wTV : type_of% @wTV.eq_def := @wTV.eq_def
theorem d_wNotT : type_of% @wNotT.eq_def := @wNotT.eq_def
theorem d_wNotE : type_of% @wNotE.eq_def := @wNotE.eq_def
theorem d_w1 : type_of% @w1.eq_def := @w1.eq_def
theorem d_w2 : type_of% @w2.eq_def := @w2.eq_def
theorem d_wN : type_of% @wN.eq_def := @wN.eq_def
theorem d_wC : type_of% @wC.eq_def := @wC.eq_def
theorem d_wVar : type_of% @wVar.eq_def := @wVar.eq_def
theorem d_wMove : type_of% @wMove.eq_def := @wMove.eq_def
theorem d_wMut : type_of% @wMut.eq_def := @wMut.eq_def
theorem d_wSl : type_of% @wSl.eq_def := @wSl.eq_def
theorem d_oTmp : type_of% @oTmp.eq_def := @oTmp.eq_def
theorem d_oLoc : type_of% @oLoc.eq_def := @oLoc.eq_def
theorem d_aNil : type_of% @aNil.eq_def := @aNil.eq_def
theorem d_aCons : type_of% @aCons.eq_def := @aCons.eq_def
theorem d_aRev : type_of% @aRev.eq_def := @aRev.eq_def
theorem d_gN : type_of% @gN.eq_def := @gN.eq_def
theorem d_gTp : type_of% @gTp.eq_def := @gTp.eq_def
theorem d_gsCons : type_of% @gsCons.eq_def := @gsCons.eq_def
theorem d_gsNil : type_of% @gsNil.eq_def := @gsNil.eq_def
theorem d_gIx : type_of% @gIx.eq_def := @gIx.eq_def
theorem d_pNone : type_of% @pNone.eq_def := @pNone.eq_def
theorem d_pInt : type_of% @pInt.eq_def := @pInt.eq_def
theorem d_fAdd : type_of% @fAdd.eq_def := @fAdd.eq_def
theorem d_fSub : type_of% @fSub.eq_def := @fSub.eq_def
theorem d_fMul : type_of% @fMul.eq_def := @fMul.eq_def
theorem d_fDiv : type_of% @fDiv.eq_def := @fDiv.eq_def
theorem d_fMod : type_of% @fMod.eq_def := @fMod.eq_def
theorem d_fPow : type_of% @fPow.eq_def := @fPow.eq_def
theorem d_fShr : type_of% @fShr.eq_def := @fShr.eq_def
theorem d_fShl : type_of% @fShl.eq_def := @fShl.eq_def
theorem d_fAnd : type_of% @fAnd.eq_def := @fAnd.eq_def
theorem d_fNeg : type_of% @fNeg.eq_def := @fNeg.eq_def
theorem d_fCmp : type_of% @fCmp.eq_def := @fCmp.eq_def
theorem d_fLt : type_of% @fLt.eq_def := @fLt.eq_def
theorem d_fLe : type_of% @fLe.eq_def := @fLe.eq_def
theorem d_fGt : type_of% @fGt.eq_def := @fGt.eq_def
theorem d_fGe : type_of% @fGe.eq_def := @fGe.eq_def
theorem d_fIs : type_of% @fIs.eq_def := @fIs.eq_def
theorem d_fIx : type_of% @fIx.eq_def := @fIx.eq_def
theorem d_fIxK : type_of% @fIxK.eq_def := @fIxK.eq_def
theorem d_fLen : type_of% @fLen.eq_def := @fLen.eq_def
theorem d_fLenK : type_of% @fLenK.eq_def := @fLenK.eq_def
theorem d_fAbs : type_of% @fAbs.eq_def := @fAbs.eq_def
theorem d_fIntOf : type_of% @fIntOf.eq_def := @fIntOf.eq_def
theorem d_fAddI : type_of% @fAddI.eq_def := @fAddI.eq_def
theorem d_fMulI : type_of% @fMulI.eq_def := @fMulI.eq_def
theorem d_fLst : type_of% @fLst.eq_def := @fLst.eq_def
theorem d_fTup : type_of% @fTup.eq_def := @fTup.eq_def
theorem d_fListOf : type_of% @fListOf.eq_def := @fListOf.eq_def
theorem d_fTupOf : type_of% @fTupOf.eq_def := @fTupOf.eq_def
theorem d_mAppend : type_of% @mAppend.eq_def := @mAppend.eq_def
theorem d_mExtend : type_of% @mExtend.eq_def := @mExtend.eq_def
theorem d_mPop0 : type_of% @mPop0.eq_def := @mPop0.eq_def
theorem d_mPopAt : type_of% @mPopAt.eq_def := @mPopAt.eq_def
theorem d_homeD : type_of% @homeD.eq_def := @homeD.eq_def
theorem d_sRaise : type_of% @sRaise.eq_def := @sRaise.eq_def
theorem d_parW1 : type_of% @parW.eq_1 := @parW.eq_1
theorem d_parW2 : type_of% @parW.eq_2 := @parW.eq_2
end G
end
section
set_option Elab.async false
set_option linter.all false
set_option maxRecDepth 100000
set_option maxHeartbeats 1000000
namespace G
open PySem PySem.Spec L2
abbrev Kl := Addr → Option (List Int)
def iv (i : Int) : R := (.sh, .int i)
def nv (n : Nat) : R := (.sh, .int n)
def sI (i : Int) : Slot := .dat .sh (.int i)
def sD (d : D) : Slot := .dat .sh d
def FS {α : Type} (ar : Nat) (pm : List Bool) (args : α → List R) (pre : α → Prop) (post : α → R → List D → Prop) (exc : α → Xn → List D → Prop) : FSpec where
  ar := ar
  pm := pm
  run := fun rs Q E => ∃ a, rs = args a ∧ pre a ∧ (∀ r o, post a r o → Q r o) ∧ (∀ x o, exc a x o → E x o)
  mono := fun rs Q Q' E E' h1 h2 ⟨a, e, p, q, x⟩ => ⟨a, e, p, fun r o z => h1 _ _ (q r o z), fun y o z => h2 _ _ (x y o z)⟩
theorem FS_pm {α : Type} {ar : Nat} {pm : List Bool} {args : α → List R} {pre : α → Prop} {post : α → R → List D → Prop} {exc : α → Xn → List D → Prop} : (FS ar pm args pre post exc).pm = pm := rfl
theorem FS_ar {α : Type} {ar : Nat} {pm : List Bool} {args : α → List R} {pre : α → Prop} {post : α → R → List D → Prop} {exc : α → Xn → List D → Prop} : (FS ar pm args pre post exc).ar = ar := rfl
theorem pair_eta (r : R) : (r.1, r.2) = r := rfl
def noExc {α : Type} : α → Xn → List D → Prop := fun _ _ _ => False
theorem FS.vc {α : Type} {ar : Nat} {pm : List Bool} {args : α → List R} {pre : α → Prop} {post : α → R → List D → Prop} {n : Nat} {w : WS} (h : ∀ a, pre a → ∀ (Q : R → List D → Prop) (E : Xn → List D → Prop), (∀ r o, post a r o → Q r o) → w (initR n (args a)) (edOf (args a) Q E)) : VC (FS ar pm args pre post noExc) n w := by
  rintro rs Q E ⟨a, rfl, hp, hQ, hE⟩
  exact h a hp Q E hQ
theorem mulOk {a b : Int} (ha : a.natAbs < 2 ^ 20000) (hb : b.natAbs < 2 ^ 20000) : MulOk a b := by
  refine CMulW.ok ?_
  have h : ∀ n : Nat, n < 2 ^ 20000 → n.log2 < 20000 := fun n hn => by
    by_cases h0 : n = 0
    · subst h0; decide
    · exact (Nat.log2_lt h0).mpr hn
  have := h _ ha
  have := h _ hb
  show _ < _
  omega
theorem divOk {b : Int} (h : 0 < b) (hb : b < 2 ^ 8000) : DivOk b := by
  refine ⟨h, ?_⟩
  have h0 : b.natAbs ≠ 0 := by omega
  have h1 : b.natAbs < 2 ^ 8000 := by omega
  have := (Nat.log2_lt h0).mpr h1
  omega
def tw (n : Nat) : Nat := if h : 0 < n ∧ n % 2 = 0 then tw (n / 2) + 1 else 0
termination_by n
decreasing_by omega
def od (n : Nat) : Nat := n / 2 ^ tw n
abbrev sp_twos_in : FSpec := FS (α := Nat) 1 [] (fun n => [nv n]) (fun n => 0 < n) (fun n r o => r = nv (tw n) ∧ o = []) noExc
abbrev sp_odd_part : FSpec := FS (α := Nat) 1 [] (fun n => [nv n]) (fun n => 0 < n) (fun n r o => r = nv (od n) ∧ o = []) noExc
abbrev sp_greatest_part : FSpec := FS (α := Nat × Nat) 2 [] (fun a => [nv a.1, nv a.2]) (fun _ => True) (fun a r o => r = nv (Nat.gcd a.1 a.2) ∧ o = []) noExc
def w_greatest_part (kl : Kl) : WS :=
(sSeq (sWhile (wTB (w2 fGt (oLoc 1) (oTmp (wC (.int 0)))))
(sPar [0, 1] (aCons (oTmp (wVar 1)) (aCons (oTmp (w2 fMod (oLoc 0) (oLoc 1))) aNil))))
(sRet (wMove 0)))
theorem vc_greatest_part (kl : Kl) : VC sp_greatest_part 2 (w_greatest_part kl) := FS.vc fun a _ Q E hQ => by
  refine whileBy (α := Nat × Nat) (fun a => [sI a.1, sI a.2]) (fun b => Nat.gcd b.1 b.2 = Nat.gcd a.1 a.2) (fun b => b.2) a rfl rfl ?_
  rintro ⟨x, y⟩ hg
  simp only [sSeq, sAsg, sIf, sExpr, sRet, sRetN, sNext, sAug, sPar, parW, sFor, sBreak, sCont, wTB, wTV, wAndT, wOrT, wNotT, wAndE, wOrE, wNotE, wIf, w1, w2, wN, wC, wVar, wMove, wMut, wComp, wCall, wSl, oTmp, oLoc, aNil, aCons, aRev, res, ress, callA, takeA, nextR, backA, putB, gN, gTp, gsCons, gsNil, gIx, canSet, okR, okM, pNone, pInt, fAdd, fSub, fMul, fDiv, fMod, fPow, fShr, fShl, fAnd, fNeg, fCmp, fLt, fLe, fGt, fGe, fEq, fIs, fIx, fIxK, fLen, fLenK, fAbs, fIntOf, fAddI, fMulI, fLst, fTup, shs, fSeq, fZip, fRev, mAppend, mExtend, mPop0, mPopAt, D.isLst, locs, lend, lendI, lent, home, homeI, back1, wipeR, unwipe, homeD, wYes, List.getElem?_cons_zero, List.getElem?_cons_succ, List.set_cons_zero, List.set_cons_succ, List.length_cons, List.length_nil, List.headD_cons, List.headD_nil, List.tail_cons, List.tail_nil, List.reverse_cons, List.reverse_nil, List.nil_append, List.cons_append, Nat.zero_add, Bool.false_eq_true, if_true, if_false, ite_true, ite_false, List.contains_cons, List.contains_nil, initR, edOf, outsOf, slotR, List.map_cons, List.map_nil, List.replicate_succ, List.replicate_zero, List.append_nil, Nat.reduceAdd, Nat.reduceSub, Nat.reduceMul, FS_pm, FS_ar, Mo.own, sI, sD, nv, iv]
  refine iteD (fun h => ?_) (fun h => ?_)
  · refine ⟨by omega, trivial, trivial, ?_⟩
    refine ⟨x % y, Nat.mod_lt _ (by omega), (y, x % y), by simp, ?_, rfl⟩
    rw [← hg]
    show Nat.gcd y (x % y) = Nat.gcd x y
    rw [Nat.gcd_comm x y, Nat.gcd_rec y x, Nat.gcd_comm]
  · have : y = 0 := by omega
    subst this
    refine hQ _ _ ⟨?_, rfl⟩
    rw [← hg]
    simp [nv]
def w_twos_in (kl : Kl) : WS :=
(sSeq (sAsg (wC (.int 0)) (gN 1))
(sSeq (sWhile (wTB (w2 (fEq false) (oTmp (w2 fMod (oLoc 0) (oTmp (wC (.int 2))))) (oTmp (wC (.int 0)))))
(sSeq (sAug 0 fDiv (oTmp (wC (.int 2))))
(sAug 1 fAddI (oTmp (wC (.int 1))))))
(sRet (wMove 1))))
theorem vc_twos_in (kl : Kl) : VC sp_twos_in 2 (w_twos_in kl) := FS.vc fun n hn Q E hQ => by
  refine ⟨trivial, ?_⟩
  refine whileBy (α := Nat × Nat) (fun a => [sI a.1, sI a.2]) (fun a => tw a.1 + a.2 = tw n ∧ 0 < a.1) (fun a => a.1) (n, 0) rfl ⟨rfl, hn⟩ ?_
  rintro ⟨x, j⟩ ⟨h1, h2⟩
  simp only [sSeq, sAsg, sIf, sExpr, sRet, sRetN, sNext, sAug, sPar, parW, sFor, sBreak, sCont, wTB, wTV, wAndT, wOrT, wNotT, wAndE, wOrE, wNotE, wIf, w1, w2, wN, wC, wVar, wMove, wMut, wComp, wCall, wSl, oTmp, oLoc, aNil, aCons, aRev, res, ress, callA, takeA, nextR, backA, putB, gN, gTp, gsCons, gsNil, gIx, canSet, okR, okM, pNone, pInt, fAdd, fSub, fMul, fDiv, fMod, fPow, fShr, fShl, fAnd, fNeg, fCmp, fLt, fLe, fGt, fGe, fEq, fIs, fIx, fIxK, fLen, fLenK, fAbs, fIntOf, fAddI, fMulI, fLst, fTup, shs, fSeq, fZip, fRev, mAppend, mExtend, mPop0, mPopAt, D.isLst, locs, lend, lendI, lent, home, homeI, back1, wipeR, unwipe, homeD, wYes, List.getElem?_cons_zero, List.getElem?_cons_succ, List.set_cons_zero, List.set_cons_succ, List.length_cons, List.length_nil, List.headD_cons, List.headD_nil, List.tail_cons, List.tail_nil, List.reverse_cons, List.reverse_nil, List.nil_append, List.cons_append, Nat.zero_add, Bool.false_eq_true, if_true, if_false, ite_true, ite_false, List.contains_cons, List.contains_nil, initR, edOf, outsOf, slotR, List.map_cons, List.map_nil, List.replicate_succ, List.replicate_zero, List.append_nil, Nat.reduceAdd, Nat.reduceSub, Nat.reduceMul, FS_pm, FS_ar, Mo.own, sI, sD, nv, iv]
  simp only at h1 h2
  refine ⟨by decide, ?_⟩
  simp only [Bool.false_xor]
  refine iteD (fun h => ?_) (fun h => ?_)
  · refine ⟨divOk (by decide) (by decide), ?_⟩
    have e : tw x = tw (x / 2) + 1 := by
      conv => lhs; unfold tw
      rw [dif_pos ⟨h2, by omega⟩]
    exact ⟨x / 2, by omega, (x / 2, j + 1), by simp, ⟨by simp only; omega, by simp only; omega⟩, rfl⟩
  · refine hQ _ _ ⟨?_, rfl⟩
    have e : tw x = 0 := by
      unfold tw
      rw [dif_neg (by omega)]
    rw [← h1, e, Nat.zero_add]
    rfl
def w_odd_part (kl : Kl) : WS :=
(sRet (w2 fShr (oLoc 0) (oTmp (wCall sp_twos_in (aCons (oLoc 0) aNil)))))
theorem vc_odd_part (kl : Kl) : VC sp_odd_part 1 (w_odd_part kl) := FS.vc fun n hn Q E hQ => by
  refine ⟨rfl, n, rfl, hn, ?_, fun _ _ z => z.elim⟩
  rintro r o ⟨rfl, rfl⟩
  refine ⟨trivial, ?_⟩
  simp only [sSeq, sAsg, sIf, sExpr, sRet, sRetN, sNext, sAug, sPar, parW, sFor, sBreak, sCont, wTB, wTV, wAndT, wOrT, wNotT, wAndE, wOrE, wNotE, wIf, w1, w2, wN, wC, wVar, wMove, wMut, wComp, wCall, wSl, oTmp, oLoc, aNil, aCons, aRev, res, ress, callA, takeA, nextR, backA, putB, gN, gTp, gsCons, gsNil, gIx, canSet, okR, okM, pNone, pInt, fAdd, fSub, fMul, fDiv, fMod, fPow, fShr, fShl, fAnd, fNeg, fCmp, fLt, fLe, fGt, fGe, fEq, fIs, fIx, fIxK, fLen, fLenK, fAbs, fIntOf, fAddI, fMulI, fLst, fTup, shs, fSeq, fZip, fRev, mAppend, mExtend, mPop0, mPopAt, D.isLst, locs, lend, lendI, lent, home, homeI, back1, wipeR, unwipe, homeD, wYes, List.getElem?_cons_zero, List.getElem?_cons_succ, List.set_cons_zero, List.set_cons_succ, List.length_cons, List.length_nil, List.headD_cons, List.headD_nil, List.tail_cons, List.tail_nil, List.reverse_cons, List.reverse_nil, List.nil_append, List.cons_append, Nat.zero_add, Bool.false_eq_true, if_true, if_false, ite_true, ite_false, List.contains_cons, List.contains_nil, initR, edOf, outsOf, slotR, List.map_cons, List.map_nil, List.replicate_succ, List.replicate_zero, List.append_nil, Nat.reduceAdd, Nat.reduceSub, Nat.reduceMul, FS_pm, FS_ar, Mo.own, sI, sD, nv, iv]
  refine ⟨by omega, hQ _ _ ⟨?_, rfl⟩⟩
  simp [nv, od]
end G
end
section
set_option Elab.async false
set_option linter.all false
set_option maxRecDepth 100000
namespace G
theorem tw_even {n : Nat} (h : 0 < n) (h2 : n % 2 = 0) : tw n = tw (n / 2) + 1 := by
  conv => lhs; unfold tw
  rw [dif_pos ⟨h, h2⟩]
theorem tw_odd {n : Nat} (h2 : n % 2 = 1) : tw n = 0 := by
  unfold tw
  rw [dif_neg (by omega)]
theorem tw_mul_pow {m : Nat} (hm : m % 2 = 1) : ∀ k : Nat, tw (m * 2 ^ k) = k
  | 0 => by simpa using tw_odd hm
  | k + 1 => by
    have e : m * 2 ^ (k + 1) = 2 * (m * 2 ^ k) := by rw [Nat.pow_succ]; ac_rfl
    have hp : 0 < m * 2 ^ k := Nat.mul_pos (by omega) (Nat.two_pow_pos k)
    rw [e, tw_even (by omega) (by omega)]
    have e2 : 2 * (m * 2 ^ k) / 2 = m * 2 ^ k := by omega
    rw [e2, tw_mul_pow hm k]
theorem od_mul_pow {m : Nat} (hm : m % 2 = 1) (k : Nat) : od (m * 2 ^ k) = m := by
  unfold od
  rw [tw_mul_pow hm k]
  exact Nat.mul_div_cancel _ (Nat.two_pow_pos k)
theorem tw_od (n : Nat) (h : 0 < n) : n = od n * 2 ^ tw n ∧ od n % 2 = 1 := by
  induction n using Nat.strongRecOn with
  | ind n ih =>
    by_cases h2 : n % 2 = 0
    · obtain ⟨e1, e2⟩ := ih (n / 2) (by omega) (by omega)
      have ht := tw_even h h2
      have e : n = od (n / 2) * 2 ^ tw n := by
        rw [ht, Nat.pow_succ, ← Nat.mul_assoc, ← e1]
        omega
      have eo : od n = od (n / 2) := by
        conv => lhs; rw [e]
        rw [ht] 
        exact od_mul_pow e2 _
      rw [eo]
      exact ⟨e, e2⟩
    · have ht := tw_odd (n := n) (by omega)
      have eo : od n = n := by unfold od; rw [ht]; simp
      rw [eo, ht]
      exact ⟨by simp, by omega⟩
theorem od_pos {n : Nat} (h : 0 < n) : 0 < od n := by
  have := (tw_od n h).2
  omega
theorem tw_mul {a b : Nat} (ha : 0 < a) (hb : 0 < b) : tw (a * b) = tw a + tw b := by
  obtain ⟨e1, o1⟩ := tw_od a ha
  obtain ⟨e2, o2⟩ := tw_od b hb
  have e : a * b = (od a * od b) * 2 ^ (tw a + tw b) := by
    conv => lhs; rw [e1, e2]
    rw [Nat.pow_add]
    ac_rfl
  have o : (od a * od b) % 2 = 1 := by
    rw [Nat.mul_mod, o1, o2]
  rw [e, tw_mul_pow o]
theorem pow_tw_dvd (n : Nat) (h : 0 < n) : 2 ^ tw n ∣ n := ⟨od n, by rw [Nat.mul_comm]; exact (tw_od n h).1⟩
theorem tw_le_of_dvd {k n : Nat} (h : 0 < n) (hd : 2 ^ k ∣ n) : k ≤ tw n := by
  obtain ⟨m, rfl⟩ := hd
  have hm : 0 < m := Nat.pos_of_ne_zero fun z => by subst z; simp at h
  have : tw (2 ^ k * m) = tw (2 ^ k) + tw m := tw_mul (Nat.two_pow_pos k) hm
  have e : tw (2 ^ k) = k := by
    have := tw_mul_pow (m := 1) rfl k
    rwa [Nat.one_mul] at this
  omega
theorem bit_at {a k : Nat} (ha : 0 < a) (hd : 2 ^ k ∣ a) : a / 2 ^ k % 2 = 1 ↔ tw a = k := by
  obtain ⟨m, rfl⟩ := hd
  have hm : 0 < m := Nat.pos_of_ne_zero fun z => by subst z; simp at ha
  have e : tw (2 ^ k * m) = k + tw m := by
    rw [tw_mul (Nat.two_pow_pos k) hm]
    have := tw_mul_pow (m := 1) rfl k
    rw [Nat.one_mul] at this
    rw [this]
  rw [Nat.mul_div_cancel_left _ (Nat.two_pow_pos k), e]
  constructor
  · intro h
    rw [tw_odd h]; rfl
  · intro h
    have h0 : tw m = 0 := by omega
    by_cases h2 : m % 2 = 0
    · have := tw_even hm h2
      omega
    · omega
def gcdL (xs : List Nat) : Nat := xs.foldl Nat.gcd 0
theorem foldl_gcd (xs : List Nat) : ∀ a, xs.foldl Nat.gcd a = Nat.gcd a (gcdL xs) := by
  induction xs with
  | nil => intro a; simp [gcdL]
  | cons x xs ih =>
    intro a
    show xs.foldl Nat.gcd (Nat.gcd a x) = Nat.gcd a (xs.foldl Nat.gcd (Nat.gcd 0 x))
    rw [ih, ih, Nat.gcd_assoc, Nat.gcd_zero_left]
theorem gcdL_nil : gcdL [] = 0 := rfl
theorem gcdL_cons (x : Nat) (xs : List Nat) : gcdL (x :: xs) = Nat.gcd x (gcdL xs) := by
  show xs.foldl Nat.gcd (Nat.gcd 0 x) = _
  rw [foldl_gcd, Nat.gcd_zero_left]
theorem gcdL_append (xs ys : List Nat) : gcdL (xs ++ ys) = Nat.gcd (gcdL xs) (gcdL ys) := by
  unfold gcdL
  rw [List.foldl_append, foldl_gcd]
  rfl
theorem gcdL_dvd {xs : List Nat} {x : Nat} (h : x ∈ xs) : gcdL xs ∣ x := by
  induction xs with
  | nil => cases h
  | cons y ys ih =>
    rw [gcdL_cons]
    rcases List.mem_cons.mp h with rfl | h
    · exact Nat.gcd_dvd_left _ _
    · exact Nat.dvd_trans (Nat.gcd_dvd_right _ _) (ih h)
theorem dvd_gcdL {xs : List Nat} {d : Nat} (h : ∀ x ∈ xs, d ∣ x) : d ∣ gcdL xs := by
  induction xs with
  | nil => exact Nat.dvd_zero d
  | cons y ys ih =>
    rw [gcdL_cons]
    exact Nat.dvd_gcd (h y List.mem_cons_self) (ih fun x hx => h x (List.mem_cons_of_mem _ hx))
theorem gcdL_pos {xs : List Nat} {x : Nat} (h : x ∈ xs) (hx : 0 < x) : 0 < gcdL xs := Nat.pos_of_dvd_of_pos (gcdL_dvd h) hx
theorem gcdL_perm {xs ys : List Nat} (h : xs.Perm ys) : gcdL xs = gcdL ys :=
  Nat.dvd_antisymm (dvd_gcdL fun x hx => gcdL_dvd (h.mem_iff.mpr hx)) (dvd_gcdL fun x hx => gcdL_dvd (h.mem_iff.mp hx))
theorem gcdL_zeros (xs : List Nat) (n : Nat) : gcdL (xs ++ List.replicate n 0) = gcdL xs := by
  rw [gcdL_append]
  have : gcdL (List.replicate n 0) = 0 := Nat.eq_zero_of_zero_dvd (dvd_gcdL fun x hx => by rw [List.eq_of_mem_replicate hx]; exact Nat.dvd_refl 0)
  rw [this, Nat.gcd_zero_right]
theorem gcdL_mul (s : Nat) (xs : List Nat) : gcdL (xs.map (s * ·)) = s * gcdL xs := by
  induction xs with
  | nil => simp [gcdL]
  | cons x xs ih => rw [List.map_cons, gcdL_cons, ih, gcdL_cons, Nat.gcd_mul_left]
theorem gcdL_filter (xs : List Nat) : gcdL (xs.filter (0 < ·)) = gcdL xs := by
  refine Nat.dvd_antisymm (dvd_gcdL fun x hx => ?_) (dvd_gcdL fun x hx => gcdL_dvd (List.mem_filter.mp hx).1)
  by_cases h : 0 < x
  · exact gcdL_dvd (List.mem_filter.mpr ⟨hx, by simpa using h⟩)
  · have : x = 0 := by omega
    subst this
    exact Nat.dvd_zero _
def oddN (xs : List Nat) : Nat := (xs.filter fun a => decide (0 < a) && decide (tw a = tw (gcdL xs))).length
theorem oddN_perm {xs ys : List Nat} (h : xs.Perm ys) : oddN xs = oddN ys := by
  unfold oddN
  rw [gcdL_perm h]
  exact (h.filter _).length_eq
theorem oddN_zeros (xs : List Nat) (n : Nat) : oddN (xs ++ List.replicate n 0) = oddN xs := by
  unfold oddN
  rw [gcdL_zeros, List.filter_append, List.length_append]
  have : (List.replicate n 0).filter (fun a => decide (0 < a) && decide (tw a = tw (gcdL xs))) = [] := by
    rw [List.filter_eq_nil_iff]
    intro a ha
    rw [List.eq_of_mem_replicate ha]
    simp
  rw [this]
  rfl
theorem oddN_mul {s : Nat} (hs : 0 < s) (xs : List Nat) (hg : 0 < gcdL xs) : oddN (xs.map (s * ·)) = oddN xs := by
  unfold oddN
  rw [gcdL_mul, List.filter_map, List.length_map]
  congr 1
  apply List.filter_congr
  intro a _
  show (decide (0 < s * a) && decide (tw (s * a) = tw (s * gcdL xs))) = _
  by_cases ha : 0 < a
  · have h1 : 0 < s * a := Nat.mul_pos hs ha
    rw [tw_mul hs ha, tw_mul hs hg]
    have : (tw s + tw a = tw s + tw (gcdL xs)) ↔ tw a = tw (gcdL xs) := by omega
    simp only [h1, ha, decide_true, Bool.true_and, this]
  · have : a = 0 := by omega
    subst this
    simp
theorem oddN_bits (xs : List Nat) (hg : 0 < gcdL xs) : ((xs.filter (0 < ·)).filter fun a => decide (a / (gcdL xs / od (gcdL xs)) % 2 = 1)).length = oddN xs := by
  unfold oddN
  rw [List.filter_filter]
  congr 1
  apply List.filter_congr
  intro a ha
  have e : gcdL xs / od (gcdL xs) = 2 ^ tw (gcdL xs) := by
    obtain ⟨e1, _⟩ := tw_od _ hg
    conv => lhs; lhs; rw [e1]
    exact Nat.mul_div_cancel_left _ (od_pos hg)
  rw [e]
  by_cases hp : 0 < a
  · have hd : 2 ^ tw (gcdL xs) ∣ a := Nat.dvd_trans (pow_tw_dvd _ hg) (gcdL_dvd ha)
    have := bit_at hp hd
    simp only [hp, decide_true, Bool.and_true, Bool.true_and, this]
  · simp [hp]
def hn (xs : List Nat) : Nat := (xs.filter fun x => decide (0 < x)).length
theorem hn_perm {xs ys : List Nat} (h : xs.Perm ys) : hn xs = hn ys := (h.filter _).length_eq
theorem hn_zeros (xs : List Nat) (n : Nat) : hn (xs ++ List.replicate n 0) = hn xs := by
  unfold hn
  rw [List.filter_append, List.length_append]
  have : (List.replicate n 0).filter (fun x => decide (0 < x)) = [] := by
    rw [List.filter_eq_nil_iff]
    intro a ha
    rw [List.eq_of_mem_replicate ha]; simp
  rw [this]; rfl
theorem hn_pos {xs : List Nat} (h : ∀ x ∈ xs, 0 < x) : hn xs = xs.length := by
  unfold hn
  rw [List.filter_eq_self.mpr fun x hx => by simpa using h x hx]
theorem sum_perm {xs ys : List Nat} (h : xs.Perm ys) : xs.sum = ys.sum := h.sum_nat
theorem sum_zeros (xs : List Nat) (n : Nat) : (xs ++ List.replicate n 0).sum = xs.sum := by simp
theorem sum_mul (s : Nat) (xs : List Nat) : (xs.map (s * ·)).sum = s * xs.sum := by
  induction xs with
  | nil => rfl
  | cons x xs ih => simp [ih, Nat.mul_add]
end G
end
section
set_option Elab.async false
set_option linter.all false
set_option maxRecDepth 100000
set_option maxHeartbeats 1000000
set_option exponentiation.threshold 100000
namespace G
open PySem PySem.Spec L2
def natsD (xs : List Nat) : List D := xs.map fun n : Nat => .int (n : Int)
def rowD (xs : List Nat) : D := .tup (natsD xs)
abbrev sp_unit : FSpec := FS (α := List Nat) 1 [] (fun xs => [(.sh, rowD xs)]) (fun _ => True) (fun xs r o => r = nv (gcdL xs) ∧ o = []) noExc
abbrev sp_measure : FSpec := FS (α := List Nat) 1 [] (fun xs => [(.sh, rowD xs)]) (fun xs => 0 < gcdL xs) (fun xs r o => r = nv (od (gcdL xs)) ∧ o = []) noExc
abbrev sp_twos : FSpec := FS (α := List Nat) 1 [] (fun xs => [(.sh, rowD xs)]) (fun xs => 0 < gcdL xs) (fun xs r o => r = nv (tw (gcdL xs)) ∧ o = []) noExc
abbrev sp_odd_ones : FSpec := FS (α := List Nat) 1 [] (fun xs => [(.sh, rowD xs)]) (fun xs => 0 < gcdL xs ∧ xs.length ≤ sizeLine) (fun xs r o => r = nv (oddN xs) ∧ o = []) noExc
theorem natsD_get {xs : List Nat} {j : Nat} {d : D} (h : (natsD xs)[j]? = some d) : ∃ n, xs[j]? = some n ∧ d = .int n := by
  unfold natsD at h
  rw [List.getElem?_map] at h
  cases e : xs[j]? with
  | none => rw [e] at h; cases h
  | some n => rw [e] at h; cases h; exact ⟨n, rfl, rfl⟩
theorem natsD_len (xs : List Nat) : (natsD xs).length = xs.length := by simp [natsD]
theorem gcdL_take {xs : List Nat} {j n : Nat} (h : xs[j]? = some n) : gcdL (xs.take (j + 1)) = Nat.gcd (gcdL (xs.take j)) n := by
  rw [List.take_add_one, h, gcdL_append]
  show Nat.gcd _ (gcdL [n]) = _
  rw [gcdL_cons, gcdL_nil, Nat.gcd_zero_right]
def w_unit (kl : Kl) : WS :=
(sSeq (sAsg (wC (.int 0)) (gN 1))
(sSeq (sFor fSeq (aCons (oLoc 0) aNil) (gN 2)
(sAsg (wCall sp_greatest_part (aCons (oLoc 1) (aCons (oLoc 2) aNil))) (gN 1)))
(sRet (wMove 1))))
theorem vc_unit (kl : Kl) : VC sp_unit 3 (w_unit kl) := FS.vc fun xs _ Q E hQ => by
  refine ⟨trivial, ?_⟩
  refine ⟨_, rfl, ?_⟩
  refine forBy0 (fun i ρ => ∃ x : Slot, (x = .un ∨ ∃ n, x = sI n) ∧ ρ = [sD (rowD xs), sI (gcdL (xs.take i)), x]) ⟨_, .inl rfl, by simp [gcdL]; rfl⟩ ?_ ?_
  · rintro j d _ N hj ⟨x, hx, rfl⟩ hN
    obtain ⟨n, hn, rfl⟩ := natsD_get hj
    have c : canSet [sD (rowD xs), sI (gcdL (xs.take j)), x] 2 := by
      rcases hx with rfl | ⟨_, rfl⟩ <;> trivial
    refine ⟨c, rfl, (gcdL (xs.take j), n), rfl, trivial, ?_, fun _ _ z => z.elim⟩
    rintro r o ⟨rfl, rfl⟩
    refine ⟨trivial, trivial, hN _ ⟨sI n, .inr ⟨n, rfl⟩, ?_⟩⟩
    rw [gcdL_take hn]
    rfl
  · rintro ρ ⟨x, _, rfl⟩
    rw [natsD_len, List.take_length]
    exact hQ _ _ ⟨rfl, rfl⟩
def w_measure (kl : Kl) : WS :=
(sRet (wCall sp_odd_part (aCons (oTmp (wCall sp_unit (aCons (oLoc 0) aNil))) aNil)))
theorem vc_measure (kl : Kl) : VC sp_measure 1 (w_measure kl) := FS.vc fun xs h Q E hQ => by
  refine ⟨rfl, xs, rfl, trivial, ?_, fun _ _ z => z.elim⟩
  rintro r o ⟨rfl, rfl⟩
  refine ⟨trivial, rfl, gcdL xs, rfl, h, ?_, fun _ _ z => z.elim⟩
  rintro r o ⟨rfl, rfl⟩
  exact ⟨trivial, hQ _ _ ⟨rfl, rfl⟩⟩
def w_twos (kl : Kl) : WS :=
(sRet (wCall sp_twos_in (aCons (oTmp (wCall sp_unit (aCons (oLoc 0) aNil))) aNil)))
theorem vc_twos (kl : Kl) : VC sp_twos 1 (w_twos kl) := FS.vc fun xs h Q E hQ => by
  refine ⟨rfl, xs, rfl, trivial, ?_, fun _ _ z => z.elim⟩
  rintro r o ⟨rfl, rfl⟩
  refine ⟨trivial, rfl, gcdL xs, rfl, h, ?_, fun _ _ z => z.elim⟩
  rintro r o ⟨rfl, rfl⟩
  exact ⟨trivial, hQ _ _ ⟨rfl, rfl⟩⟩
def w_odd_ones (kl : Kl) : WS :=
(sSeq (sAsg (wCall sp_twos (aCons (oLoc 0) aNil)) (gN 1))
(sRet (wN (fLenK kl) (aCons (oTmp (wComp fSeq (aCons (oLoc 0) aNil) (gN 2) (wAndT (wTB (w2 fGt (oLoc 2) (oTmp (wC (.int 0))))) (wTB (w2 (fEq false) (oTmp (wCall sp_twos_in (aCons (oLoc 2) aNil))) (oLoc 1)))) (wVar 2) [2])) aNil))))
def optD (p : Nat → Bool) (f : Nat → Nat) : D → Option D
  | .int i => if p i.toNat then some (.int (f i.toNat)) else none
  | _ => none
theorem optD_nats (p : Nat → Bool) (f : Nat → Nat) (xs : List Nat) : (natsD xs).filterMap (optD p f) = natsD ((xs.filter p).map f) := by
  induction xs with
  | nil => rfl
  | cons x xs ih =>
    show ((D.int x) :: natsD xs).filterMap (optD p f) = _
    rw [List.filterMap_cons]
    by_cases h : p x = true
    · have e : optD p f (.int x) = some (.int (f x)) := by simp [optD, h]
      rw [e, List.filter_cons_of_pos h, ih]
      rfl
    · have e : optD p f (.int x) = none := by simp [optD, h]
      rw [e, List.filter_cons_of_neg h, ih]
theorem mem_nats {xs : List Nat} {d : D} (h : d ∈ natsD xs) : ∃ n, n ∈ xs ∧ d = .int n := by
  obtain ⟨n, hn, rfl⟩ := List.mem_map.mp h
  exact ⟨n, hn, rfl⟩
theorem vc_odd_ones (kl : Kl) : VC sp_odd_ones 3 (w_odd_ones kl) := FS.vc fun xs h Q E hQ => by
  refine ⟨rfl, xs, rfl, h.1, ?_, fun _ _ z => z.elim⟩
  rintro r o ⟨rfl, rfl⟩
  refine ⟨trivial, trivial, ?_⟩
  refine ⟨_, rfl, ?_⟩
  refine compPure (optD (fun a => decide (0 < a) && decide (tw a = tw (gcdL xs))) id) (by rw [natsD_len]; exact h.2) ?_ ?_
  · intro d acc N hd hl hN
    obtain ⟨n, hn, rfl⟩ := mem_nats hd
    refine ⟨trivial, ?_⟩
    show (if decide ((0 : Int) < (n : Int)) = true then _ else _)
    refine iteD (fun h0 => ?_) (fun h0 => ?_)
    · refine ⟨rfl, n, rfl, by omega, ?_, fun _ _ z => z.elim⟩
      rintro r o ⟨rfl, rfl⟩
      refine ⟨trivial, ?_⟩
      simp only [sSeq, sAsg, sIf, sExpr, sRet, sRetN, sNext, sAug, sPar, parW, sFor, sBreak, sCont, wTB, wTV, wAndT, wOrT, wNotT, wAndE, wOrE, wNotE, wIf, w1, w2, wN, wC, wVar, wMove, wMut, wComp, wCall, wSl, oTmp, oLoc, aNil, aCons, aRev, res, ress, callA, takeA, nextR, backA, putB, gN, gTp, gsCons, gsNil, gIx, canSet, okR, okM, pNone, pInt, fAdd, fSub, fMul, fDiv, fMod, fPow, fShr, fShl, fAnd, fNeg, fCmp, fLt, fLe, fGt, fGe, fEq, fIs, fIx, fIxK, fLen, fLenK, fAbs, fIntOf, fAddI, fMulI, fLst, fTup, shs, fSeq, fZip, fRev, mAppend, mExtend, mPop0, mPopAt, D.isLst, locs, lend, lendI, lent, home, homeI, back1, wipeR, unwipe, homeD, wYes, List.getElem?_cons_zero, List.getElem?_cons_succ, List.set_cons_zero, List.set_cons_succ, List.length_cons, List.length_nil, List.headD_cons, List.headD_nil, List.tail_cons, List.tail_nil, List.reverse_cons, List.reverse_nil, List.nil_append, List.cons_append, Nat.zero_add, Bool.false_eq_true, if_true, if_false, ite_true, ite_false, List.contains_cons, List.contains_nil, initR, edOf, outsOf, slotR, List.map_cons, List.map_nil, List.replicate_succ, List.replicate_zero, List.append_nil, Nat.reduceAdd, Nat.reduceSub, Nat.reduceMul, FS_pm, FS_ar, Mo.own, sI, sD, nv, iv, Bool.false_xor]
      refine iteD (fun h1 => ?_) (fun h1 => ?_)
      · have e : optD (fun a => decide (0 < a) && decide (tw a = tw (gcdL xs))) id (.int n) = some (.int n) := by
          have h2 : tw n = tw (gcdL xs) := by omega
          have h3 : 0 < n := by omega
          simp [optD, h2, h3]
        rw [e] at hN
        exact ⟨trivial, hl, hN⟩
      · have e : optD (fun a => decide (0 < a) && decide (tw a = tw (gcdL xs))) id (.int n) = none := by
          have h2 : ¬ tw n = tw (gcdL xs) := by omega
          simp [optD, h2]
        rw [e] at hN
        simp only [Option.toList, List.append_nil] at hN
        exact hN
    · have e : optD (fun a => decide (0 < a) && decide (tw a = tw (gcdL xs))) id (.int n) = none := by
        have h2 : n = 0 := by omega
        subst h2
        simp [optD]
      rw [e] at hN
      simp only [Option.toList, List.append_nil] at hN
      exact hN
  · rw [optD_nats, List.map_id]
    refine hQ _ _ ⟨?_, rfl⟩
    simp only [nv, oddN, natsD_len]
end G
end
section
set_option Elab.async false
set_option linter.all false
set_option maxRecDepth 100000
set_option maxHeartbeats 1000000
set_option exponentiation.threshold 100000
namespace G
open PySem PySem.Spec L2
def BoxOk (c : Nat) (d : D) : Prop := ∃ a b k : Nat, d = .lst [.int a, .int b, .int k] ∧ a < 2 ^ 900 ∧ b < 2 ^ 62 ∧ k ≤ c
theorem BoxOk.mono {c c' : Nat} {d : D} (h : BoxOk c d) (hc : c ≤ c') : BoxOk c' d := by
  obtain ⟨a, b, k, e, h1, h2, h3⟩ := h
  exact ⟨a, b, k, e, h1, h2, Nat.le_trans h3 hc⟩
theorem at3_0 {α : Type} (x y z : α) : atI [x, y, z] 0 = some x := rfl
theorem at3_1 {α : Type} (x y z : α) : atI [x, y, z] 1 = some y := rfl
theorem at3_2 {α : Type} (x y z : α) : atI [x, y, z] 2 = some z := rfl
theorem ix3_0 : ixN 3 0 = some 0 := rfl
theorem ix3_1 : ixN 3 1 = some 1 := rfl
theorem ix3_2 : ixN 3 2 = some 2 := rfl
theorem atI_nat {α : Type} (xs : List α) (k : Nat) : atI xs (k : Int) = xs[k]? := by
  unfold atI ixN
  rw [if_pos (by omega)]
  by_cases h : (k : Int) < (xs.length : Int)
  · rw [if_pos h]
    simp
  · rw [if_neg h]
    have : xs.length ≤ k := by omega
    simp [this]
abbrev Most : Nat := 2 ^ 1000
abbrev sp_l_take : FSpec := FS (α := D × Nat × Nat) 2 [true] (fun a => [(.bo, a.1), nv a.2.1]) (fun a => BoxOk a.2.2 a.1 ∧ 0 < a.2.1 ∧ a.2.1 < 2 ^ 7000 ∧ a.2.2 < Most) (fun a r o => ∃ x d', x < a.2.1 ∧ r = nv x ∧ o = [d'] ∧ BoxOk (a.2.2 + 1) d') noExc
def w_l_take (kl : Kl) : WS :=
(sSeq (sIf (wTB (w2 fGt (oTmp (w2 (fIxK kl) (oLoc 0) (oTmp (wC (.int 0))))) (oTmp (wC (.int 0)))))
(sSeq (sAsg (w2 fMod (oTmp (w2 (fIxK kl) (oLoc 0) (oTmp (wC (.int 0))))) (oLoc 1)) (gN 2))
(sSeq (sAsg (w2 fDiv (oTmp (w2 (fIxK kl) (oLoc 0) (oTmp (wC (.int 0))))) (oLoc 1)) (gIx 0 (oTmp (wC (.int 0)))))
(sRet (wMove 2))))
sNext)
(sSeq (sAsg (w2 fAdd (oTmp (w2 (fIxK kl) (oLoc 0) (oTmp (wC (.int 2))))) (oTmp (wC (.int 1)))) (gIx 0 (oTmp (wC (.int 2)))))
(sSeq (sAsg (w2 fMod (oTmp (w2 fMul (oTmp (w2 fAdd (oTmp (w2 fAdd (oTmp (w2 (fIxK kl) (oLoc 0) (oTmp (wC (.int 1))))) (oTmp (w2 fMul (oTmp (w2 fMul (oTmp (wC (.int 65537))) (oTmp (w2 (fIxK kl) (oLoc 0) (oTmp (wC (.int 2))))))) (oTmp (w2 (fIxK kl) (oLoc 0) (oTmp (wC (.int 2))))))))) (oTmp (wC (.int 11))))) (oTmp (wC (.int 48271))))) (oTmp (wC (.int 2305843009213693921)))) (gN 3))
(sSeq (sAsg (w2 fMod (oTmp (w2 fMul (oLoc 3) (oTmp (w2 fAdd (oTmp (w2 fMod (oLoc 3) (oTmp (wC (.int 1000003))))) (oTmp (w2 fMul (oTmp (wC (.int 99991))) (oTmp (w2 (fIxK kl) (oLoc 0) (oTmp (wC (.int 2))))))))))) (oTmp (wC (.int 2305843009213693907)))) (gN 3))
(sRet (w2 fMod (oTmp (w2 fAdd (oTmp (w2 fDiv (oLoc 3) (oTmp (wC (.int 97))))) (oTmp (w2 fDiv (oLoc 3) (oTmp (wC (.int 1000033))))))) (oLoc 1)))))))
theorem small_lt {n k : Nat} (h : n < 2 ^ k) (hk : k ≤ 20000) : n < 2 ^ 20000 := Nat.lt_of_lt_of_le h (Nat.pow_le_pow_right (by decide) hk)
theorem mul_lt_pow {a b j k l : Nat} (ha : a < 2 ^ j) (hb : b < 2 ^ k) (hl : j + k ≤ l) : a * b < 2 ^ l := by
  have h1 : a * b < 2 ^ j * 2 ^ k := by
    rcases Nat.eq_zero_or_pos b with h | h
    · subst h
      simp [Nat.two_pow_pos, Nat.mul_pos]
    · exact Nat.lt_of_lt_of_le ((Nat.mul_lt_mul_right h).mpr ha) (Nat.mul_le_mul_left _ (Nat.le_of_lt hb))
  rw [← Nat.pow_add] at h1
  exact Nat.lt_of_lt_of_le h1 (Nat.pow_le_pow_right (by decide) hl)
theorem add_lt_pow {a b j k l : Nat} (ha : a < 2 ^ j) (hb : b < 2 ^ k) (hj : j < l) (hk : k < l) : a + b < 2 ^ l := by
  obtain ⟨m, rfl⟩ : ∃ m, l = m + 1 := ⟨l - 1, by omega⟩
  have h1 : a < 2 ^ m := Nat.lt_of_lt_of_le ha (Nat.pow_le_pow_right (by decide) (by omega))
  have h2 : b < 2 ^ m := Nat.lt_of_lt_of_le hb (Nat.pow_le_pow_right (by decide) (by omega))
  rw [Nat.pow_succ]
  omega
theorem mulOkN {a b : Nat} {j k : Nat} (ha : a < 2 ^ j) (hb : b < 2 ^ k) (hj : j ≤ 20000 := by decide) (hk : k ≤ 20000 := by decide) : MulOk (a : Int) (b : Int) := mulOk (small_lt ha hj) (small_lt hb hk)
theorem lt_pow_of {n m k : Nat} (h : n < m) (hm : m ≤ 2 ^ k) : n < 2 ^ k := Nat.lt_of_lt_of_le h hm
theorem mulOkL {c : Nat} {b : Nat} {k : Nat} (hc : c < 2 ^ 64 := by decide) (hb : b < 2 ^ k) (hk : k ≤ 20000 := by decide) : MulOk (c : Int) (b : Int) := mulOkN hc hb (by decide) hk
theorem vc_l_take (kl : Kl) : VC sp_l_take 4 (w_l_take kl) := FS.vc fun ⟨d, many, c⟩ hp Q E hQ => by
  obtain ⟨⟨a, b, k, rfl, ha, hb, hk⟩, h0, hm, hc⟩ := hp
  simp only at ha hb hk h0 hm hc
  have dm : DivOk (many : Int) := by
    refine ⟨by omega, ?_⟩
    have h1 : (many : Int).natAbs = many := rfl
    rw [h1]
    have := (Nat.log2_lt (by omega)).mpr hm
    omega
  simp only [sSeq, sAsg, sIf, sExpr, sRet, sRetN, sNext, sAug, sPar, parW, sFor, sBreak, sCont, wTB, wTV, wAndT, wOrT, wNotT, wAndE, wOrE, wNotE, wIf, w1, w2, wN, wC, wVar, wMove, wMut, wComp, wCall, wSl, oTmp, oLoc, aNil, aCons, aRev, res, ress, callA, takeA, nextR, backA, putB, gN, gTp, gsCons, gsNil, gIx, canSet, okR, okM, pNone, pInt, fAdd, fSub, fMul, fDiv, fMod, fPow, fShr, fShl, fAnd, fNeg, fCmp, fLt, fLe, fGt, fGe, fEq, fIs, fIx, fIxK, fLen, fLenK, fAbs, fIntOf, fAddI, fMulI, fLst, fTup, shs, fSeq, fZip, fRev, mAppend, mExtend, mPop0, mPopAt, D.isLst, locs, lend, lendI, lent, home, homeI, back1, wipeR, unwipe, homeD, wYes, List.getElem?_cons_zero, List.getElem?_cons_succ, List.set_cons_zero, List.set_cons_succ, List.length_cons, List.length_nil, List.headD_cons, List.headD_nil, List.tail_cons, List.tail_nil, List.reverse_cons, List.reverse_nil, List.nil_append, List.cons_append, Nat.zero_add, Bool.false_eq_true, if_true, if_false, ite_true, ite_false, List.contains_cons, List.contains_nil, initR, edOf, outsOf, slotR, List.map_cons, List.map_nil, List.replicate_succ, List.replicate_zero, List.append_nil, Nat.reduceAdd, Nat.reduceSub, Nat.reduceMul, FS_pm, FS_ar, Mo.own, sI, sD, nv, iv, w_l_take, at3_0, ix3_0]
  refine iteD (fun h => ?_) (fun h => ?_)
  · refine ⟨by omega, trivial, dm, trivial, ?_⟩
    refine ⟨trivial, hQ _ _ ⟨a % many, _, Nat.mod_lt _ h0, ?_, rfl, a / many, b, k, ?_, Nat.lt_of_le_of_lt (Nat.div_le_self _ _) ha, hb, Nat.le_succ_of_le hk⟩⟩
    · simp [nv]
    · simp
  · simp only [sSeq, sAsg, sIf, sExpr, sRet, sRetN, sNext, sAug, sPar, parW, sFor, sBreak, sCont, wTB, wTV, wAndT, wOrT, wNotT, wAndE, wOrE, wNotE, wIf, w1, w2, wN, wC, wVar, wMove, wMut, wComp, wCall, wSl, oTmp, oLoc, aNil, aCons, aRev, res, ress, callA, takeA, nextR, backA, putB, gN, gTp, gsCons, gsNil, gIx, canSet, okR, okM, pNone, pInt, fAdd, fSub, fMul, fDiv, fMod, fPow, fShr, fShl, fAnd, fNeg, fCmp, fLt, fLe, fGt, fGe, fEq, fIs, fIx, fIxK, fLen, fLenK, fAbs, fIntOf, fAddI, fMulI, fLst, fTup, shs, fSeq, fZip, fRev, mAppend, mExtend, mPop0, mPopAt, D.isLst, locs, lend, lendI, lent, home, homeI, back1, wipeR, unwipe, homeD, wYes, List.getElem?_cons_zero, List.getElem?_cons_succ, List.set_cons_zero, List.set_cons_succ, List.length_cons, List.length_nil, List.headD_cons, List.headD_nil, List.tail_cons, List.tail_nil, List.reverse_cons, List.reverse_nil, List.nil_append, List.cons_append, Nat.zero_add, Bool.false_eq_true, if_true, if_false, ite_true, ite_false, List.contains_cons, List.contains_nil, initR, edOf, outsOf, slotR, List.map_cons, List.map_nil, List.replicate_succ, List.replicate_zero, List.append_nil, Nat.reduceAdd, Nat.reduceSub, Nat.reduceMul, FS_pm, FS_ar, Mo.own, sI, sD, nv, iv, at3_0, at3_1, at3_2, ix3_2]
    have hk1 : k + 1 < 2 ^ 1001 := by
      have : k < 2 ^ 1000 := Nat.lt_of_le_of_lt hk hc
      omega
    have kc : ((k : Int) + 1) = ((k + 1 : Nat) : Int) := by simp
    rw [kc]
    have m1 : 65537 * (k + 1) < 2 ^ 1065 := mul_lt_pow (by decide : 65537 < 2 ^ 64) hk1 (by decide)
    have m2 : 65537 * (k + 1) * (k + 1) < 2 ^ 2066 := mul_lt_pow m1 hk1 (by decide)
    have e1 : ((65537 : Int) * ((k + 1 : Nat) : Int)) = ((65537 * (k + 1) : Nat) : Int) := by simp
    rw [e1]
    have e2 : (((65537 * (k + 1) : Nat) : Int) * ((k + 1 : Nat) : Int)) = ((65537 * (k + 1) * (k + 1) : Nat) : Int) := by simp
    rw [e2]
    obtain ⟨q, hq⟩ : ∃ q, 65537 * (k + 1) * (k + 1) = q := ⟨_, rfl⟩
    rw [hq] at m2 ⊢
    have e3 : ((b : Int) + (q : Int) + 11) = ((b + q + 11 : Nat) : Int) := by simp
    rw [e3]
    have m3 : b + q + 11 < 2 ^ 2068 := add_lt_pow (k := 64) (add_lt_pow hb m2 (by decide) (by decide : 2066 < 2067)) (by decide) (by decide) (by decide)
    have e4 : (((b + q + 11 : Nat) : Int) * 48271 % 2305843009213693921) = (((b + q + 11) * 48271 % 2305843009213693921 : Nat) : Int) := by simp
    rw [e4]
    obtain ⟨x, hx⟩ : ∃ x, (b + q + 11) * 48271 % 2305843009213693921 = x := ⟨_, rfl⟩
    rw [hx]
    have hxl : x < 2305843009213693921 := by rw [← hx]; exact Nat.mod_lt _ (by decide)
    have m4 : 99991 * (k + 1) < 2 ^ 1065 := mul_lt_pow (by decide : 99991 < 2 ^ 64) hk1 (by decide)
    have e5 : ((x : Int) * ((x : Int) % 1000003 + 99991 * ((k + 1 : Nat) : Int)) % 2305843009213693907) = ((x * (x % 1000003 + 99991 * (k + 1)) % 2305843009213693907 : Nat) : Int) := by simp
    have e6 : ((x : Int) % 1000003 + 99991 * ((k + 1 : Nat) : Int)) = ((x % 1000003 + 99991 * (k + 1) : Nat) : Int) := by simp
    rw [e5, e6]
    obtain ⟨y, hy⟩ : ∃ y, x * (x % 1000003 + 99991 * (k + 1)) % 2305843009213693907 = y := ⟨_, rfl⟩
    rw [hy]
    refine ⟨trivial, trivial, mulOkL (c := 65537) (by decide) hk1, mulOkN m1 hk1, mulOkN (b := 48271) (k := 64) m3 (by decide), by decide, trivial, by decide, mulOkL (c := 99991) (by decide) hk1, mulOkN (j := 64) (k := 1067) (by omega) ?_, by decide, trivial, divOk (by decide) (by decide +kernel), divOk (by decide) (by decide +kernel), by omega, ?_⟩
    · exact add_lt_pow (j := 64) (Nat.lt_trans (Nat.mod_lt x (by decide : 0 < 1000003)) (by decide)) m4 (by decide) (by decide)
    · refine hQ _ _ ⟨(y / 97 + y / 1000033) % many, _, Nat.mod_lt _ h0, ?_, rfl, a, b, k + 1, ?_, ha, hb, Nat.succ_le_succ hk⟩
      · simp [nv]
      · simp
end G
end
section
set_option Elab.async false
set_option linter.all false
set_option maxRecDepth 100000
set_option maxHeartbeats 1000000
set_option exponentiation.threshold 100000
namespace G
open PySem PySem.Spec L2
abbrev sp_l_box (kl : Kl) : FSpec := FS (α := List Int × R × Nat) 2 [] (fun a => [a.2.1, nv a.2.2]) (fun a => Scr kl a.1 a.2.1 ∧ a.2.2 < 2 ^ 64) (fun a r o => ∃ d, BoxOk 0 d ∧ r = (.ow, d) ∧ o = []) noExc
def w_l_box (kl : Kl) : WS :=
(sSeq (sAsg (wIf (wTB (w2 fLt (oLoc 1) (oTmp (wN (fLenK kl) (aCons (oLoc 0) aNil))))) (w2 (fIxK kl) (oLoc 0) (oLoc 1)) (wC (.int 0))) (gN 2))
(sSeq (sAsg (w2 fMul (oTmp (w2 fMod (oTmp (wN fAbs (aCons (oLoc 2) aNil))) (oTmp (w2 fMul (oTmp (w2 fMul (oTmp (w2 fMul (oTmp (w2 fPow (oTmp (wC (.int 10))) (oTmp (wC (.int 60))))) (oTmp (w2 fPow (oTmp (wC (.int 10))) (oTmp (wC (.int 60))))))) (oTmp (w2 fPow (oTmp (wC (.int 10))) (oTmp (wC (.int 60))))))) (oTmp (w2 fPow (oTmp (wC (.int 10))) (oTmp (wC (.int 60))))))))) (oTmp (wN fIntOf (aCons (oTmp (w2 fGe (oTmp (wN fAbs (aCons (oLoc 2) aNil))) (oTmp (w2 fPow (oTmp (wC (.int 10))) (oTmp (wC (.int 18))))))) aNil)))) (gN 3))
(sRet (wN fLst (aCons (oTmp (wVar 3)) (aCons (oTmp (w2 fMod (oTmp (w2 fMul (oTmp (w2 fAdd (oTmp (w2 fAdd (oTmp (w2 fMod (oLoc 2) (oTmp (wC (.int 2305843009213693951))))) (oTmp (w2 fMul (oTmp (w2 fMul (oTmp (wC (.int 7919))) (oLoc 1))) (oLoc 1))))) (oTmp (wC (.int 43))))) (oTmp (wC (.int 48271))))) (oTmp (wC (.int 2305843009213693921))))) (aCons (oTmp (wC (.int 0))) aNil)))))))
theorem scr_len {kl : Kl} {ns : List Int} {r : R} (h : Scr kl ns r) (Q : R → Prop) : fLenK kl [r] Q = Q (.sh, .int ns.length) := by
  rcases h with rfl | ⟨a, rfl, e⟩
  · simp [fLenK, fLen]
  · simp [fLenK, e]
theorem scr_ix {kl : Kl} {ns : List Int} {r : R} (h : Scr kl ns r) {k : Nat} {n : Int} (hk : ns[k]? = some n) (Q : R → Prop) : fIxK kl r (.sh, .int k) Q = Q (.sh, .int n) := by
  rcases h with rfl | ⟨a, rfl, e⟩
  · simp only [fIxK, fIx]
    rw [atI_map D.int (x := n) (by rw [atI_nat]; exact hk)]
  · simp only [fIxK, e]
    rw [atI_nat, hk]
theorem box_rest (kl : Kl) (s : Slot) (k : Nat) (hk : k < 2 ^ 64) (x : Int) (ed : Ed) (h : ∀ d, BoxOk 0 d → ed.rt (.ow, d) [s, sI k, sI x, .un]) (h2 : ∀ d y, BoxOk 0 d → ed.rt (.ow, d) [s, sI k, sI x, sI y]) :
    (sSeq (sAsg (w2 fMul (oTmp (w2 fMod (oTmp (wN fAbs (aCons (oLoc 2) aNil))) (oTmp (w2 fMul (oTmp (w2 fMul (oTmp (w2 fMul (oTmp (w2 fPow (oTmp (wC (.int 10))) (oTmp (wC (.int 60))))) (oTmp (w2 fPow (oTmp (wC (.int 10))) (oTmp (wC (.int 60))))))) (oTmp (w2 fPow (oTmp (wC (.int 10))) (oTmp (wC (.int 60))))))) (oTmp (w2 fPow (oTmp (wC (.int 10))) (oTmp (wC (.int 60))))))))) (oTmp (wN fIntOf (aCons (oTmp (w2 fGe (oTmp (wN fAbs (aCons (oLoc 2) aNil))) (oTmp (w2 fPow (oTmp (wC (.int 10))) (oTmp (wC (.int 18))))))) aNil)))) (gN 3))
(sRet (wN fLst (aCons (oTmp (wVar 3)) (aCons (oTmp (w2 fMod (oTmp (w2 fMul (oTmp (w2 fAdd (oTmp (w2 fAdd (oTmp (w2 fMod (oLoc 2) (oTmp (wC (.int 2305843009213693951))))) (oTmp (w2 fMul (oTmp (w2 fMul (oTmp (wC (.int 7919))) (oLoc 1))) (oLoc 1))))) (oTmp (wC (.int 43))))) (oTmp (wC (.int 48271))))) (oTmp (wC (.int 2305843009213693921))))) (aCons (oTmp (wC (.int 0))) aNil)))))) [s, sI k, sI x, .un] ed := by
  simp only [sSeq, sAsg, sIf, sExpr, sRet, sRetN, sNext, sAug, sPar, parW, sFor, sBreak, sCont, wTB, wTV, wAndT, wOrT, wNotT, wAndE, wOrE, wNotE, wIf, w1, w2, wN, wC, wVar, wMove, wMut, wComp, wCall, wSl, oTmp, oLoc, aNil, aCons, aRev, res, ress, callA, takeA, nextR, backA, putB, gN, gTp, gsCons, gsNil, gIx, canSet, okR, okM, pNone, pInt, fAdd, fSub, fMul, fDiv, fMod, fPow, fShr, fShl, fAnd, fNeg, fCmp, fLt, fLe, fGt, fGe, fEq, fIs, fIx, fIxK, fLen, fLenK, fAbs, fIntOf, fAddI, fMulI, fLst, fTup, shs, fSeq, fZip, fRev, mAppend, mExtend, mPop0, mPopAt, D.isLst, locs, lend, lendI, lent, home, homeI, back1, wipeR, unwipe, homeD, wYes, List.getElem?_cons_zero, List.getElem?_cons_succ, List.set_cons_zero, List.set_cons_succ, List.length_cons, List.length_nil, List.headD_cons, List.headD_nil, List.tail_cons, List.tail_nil, List.reverse_cons, List.reverse_nil, List.nil_append, List.cons_append, Nat.zero_add, Bool.false_eq_true, if_true, if_false, ite_true, ite_false, List.contains_cons, List.contains_nil, initR, edOf, outsOf, slotR, List.map_cons, List.map_nil, List.replicate_succ, List.replicate_zero, List.append_nil, Nat.reduceAdd, Nat.reduceSub, Nat.reduceMul, FS_pm, FS_ar, Mo.own, sI, sD, nv, iv]
  have hA : 0 ≤ (if x < 0 then -x else x) := by split <;> omega
  generalize (if x < 0 then -x else x) = A at *
  have p60 : PowOk 10 60 := by unfold PowOk; decide
  have p18 : PowOk 10 18 := by unfold PowOk; decide
  have e60 : (10 : Int) ^ (Int.toNat 60) = ((10 ^ 60 : Nat) : Int) := by decide +kernel
  rw [e60]
  have m1 : MulOk ((10 ^ 60 : Nat) : Int) ((10 ^ 60 : Nat) : Int) := mulOk (by decide +kernel) (by decide +kernel)
  have m2 : MulOk (((10 ^ 60 : Nat) : Int) * ((10 ^ 60 : Nat) : Int)) ((10 ^ 60 : Nat) : Int) := mulOk (by decide +kernel) (by decide +kernel)
  have m3 : MulOk (((10 ^ 60 : Nat) : Int) * ((10 ^ 60 : Nat) : Int) * ((10 ^ 60 : Nat) : Int)) ((10 ^ 60 : Nat) : Int) := mulOk (by decide +kernel) (by decide +kernel)
  have hP : (0 : Int) < ((10 ^ 60 : Nat) : Int) * ((10 ^ 60 : Nat) : Int) * ((10 ^ 60 : Nat) : Int) * ((10 ^ 60 : Nat) : Int) := by decide +kernel
  have hP2 : ((10 ^ 60 : Nat) : Int) * ((10 ^ 60 : Nat) : Int) * ((10 ^ 60 : Nat) : Int) * ((10 ^ 60 : Nat) : Int) < ((2 ^ 900 : Nat) : Int) := by decide +kernel
  generalize ((10 ^ 60 : Nat) : Int) * ((10 ^ 60 : Nat) : Int) * ((10 ^ 60 : Nat) : Int) * ((10 ^ 60 : Nat) : Int) = P at *
  obtain ⟨n, hn⟩ := Int.eq_ofNat_of_zero_le (Int.emod_nonneg A (by omega : P ≠ 0))
  have hn2 : n < 2 ^ 900 := by
    have := Int.emod_lt_of_pos A hP
    rw [hn] at this
    exact Int.ofNat_lt.mp (Int.lt_trans this hP2)
  rw [hn]
  obtain ⟨b, hb, hb2⟩ : ∃ b : Nat, (if decide (10 ^ Int.toNat 18 ≤ A) = true then (1 : Int) else 0) = (b : Int) ∧ b ≤ 1 := by
    split
    · exact ⟨1, rfl, Nat.le_refl _⟩
    · exact ⟨0, rfl, Nat.zero_le _⟩
  simp only [hb]
  have m4 : MulOk (n : Int) (b : Int) := mulOkN (k := 64) hn2 (Nat.lt_of_le_of_lt hb2 (by decide))
  obtain ⟨y, hy⟩ := Int.eq_ofNat_of_zero_le (Int.emod_nonneg x (by decide : (2305843009213693951 : Int) ≠ 0))
  have hy2 : y < 2 ^ 64 := by
    have := Int.emod_lt_of_pos x (by decide : (0 : Int) < 2305843009213693951)
    rw [hy] at this
    omega
  rw [hy]
  have e1 : ((7919 : Int) * (k : Int)) = ((7919 * k : Nat) : Int) := by simp
  rw [e1]
  have k1 : 7919 * k < 2 ^ 128 := mul_lt_pow (by decide : 7919 < 2 ^ 64) hk (by decide)
  have e2 : (((7919 * k : Nat) : Int) * (k : Int)) = ((7919 * k * k : Nat) : Int) := by simp
  rw [e2]
  have k2 : 7919 * k * k < 2 ^ 192 := mul_lt_pow k1 hk (by decide)
  have e3 : ((y : Int) + ((7919 * k * k : Nat) : Int) + 43) = ((y + 7919 * k * k + 43 : Nat) : Int) := by simp
  rw [e3]
  have k3 : y + 7919 * k * k + 43 < 2 ^ 194 := add_lt_pow (k := 64) (add_lt_pow hy2 k2 (by decide) (by decide : 192 < 193)) (by decide) (by decide) (by decide)
  have m5 : MulOk ((y + 7919 * k * k + 43 : Nat) : Int) 48271 := mulOkN (b := 48271) (k := 64) k3 (by decide)
  have e4 : (((y + 7919 * k * k + 43 : Nat) : Int) * 48271 % 2305843009213693921) = (((y + 7919 * k * k + 43) * 48271 % 2305843009213693921 : Nat) : Int) := by simp
  rw [e4]
  have e5 : ((n : Int) * (b : Int)) = ((n * b : Nat) : Int) := by simp
  rw [e5]
  refine ⟨p60, p60, m1, p60, m2, p60, m3, hP, p18, m4, trivial, by decide, mulOkL (c := 7919) (by decide) hk, mulOkN k1 hk, m5, by decide, by decide, ?_⟩
  refine h2 _ _ ⟨n * b, _, 0, rfl, ?_, Nat.lt_trans (Nat.mod_lt _ (by decide)) (by decide), Nat.le_refl _⟩
  have : n * b ≤ n * 1 := Nat.mul_le_mul_left _ hb2
  exact Nat.lt_of_le_of_lt (by simpa using this) hn2
theorem vc_l_box (kl : Kl) : VC (sp_l_box kl) 4 (w_l_box kl) := FS.vc fun ⟨ns, r, k⟩ hp Q E hQ => by
  obtain ⟨hs, hk⟩ := hp
  simp only at hs hk hQ
  have hr : ∀ s : Slot, ∀ x y, outsOf [r, nv k] [s, x, y, .un] = [] ∧ ∀ z, outsOf [r, nv k] [s, x, y, z] = [] := fun s x y => by
    rcases hs with rfl | ⟨a, rfl, _⟩ <;> exact ⟨rfl, fun _ => rfl⟩
  have fin : ∀ x : Int, _ := fun x => box_rest kl (slotR r) k hk x (edOf [r, nv k] Q E) (fun d hd => hQ _ _ ⟨d, hd, rfl, (hr _ _ _).1⟩) (fun d y hd => hQ _ _ ⟨d, hd, rfl, (hr _ _ _).2 _⟩)
  have l := scr_len hs
  have fin2 := fin
  simp only [w_l_box, sSeq, sAsg, wIf, wTB, w2, oTmp, wN, aCons, aNil, oLoc, res, ress, initR, List.map_cons, List.map_nil, nv, slotR, List.length_cons, List.length_nil, List.replicate_succ, List.replicate_zero, List.cons_append, List.nil_append, List.getElem?_cons_zero, List.getElem?_cons_succ, Nat.reduceAdd, Nat.reduceSub, pair_eta, fLt, fCmp]
  rw [l]
  refine iteD (fun h => ?_) (fun h => ?_)
  · have hk2 : k < ns.length := by omega
    rw [scr_ix hs (show ns[k]? = some ns[k] by simp [hk2])]
    exact ⟨trivial, fin _⟩
  · exact ⟨trivial, fin 0⟩
def sqD : D → Option (List D)
  | .lst ds => some ds
  | .tup ds => some ds
  | _ => none
abbrev sp_l_of : FSpec := FS (α := D × R × List D × Nat) 2 [true] (fun a => [(.bo, a.1), a.2.1]) (fun a => BoxOk a.2.2.2 a.1 ∧ sqD a.2.1.2 = some a.2.2.1 ∧ a.2.1.1 ≠ .bo ∧ 0 < a.2.2.1.length ∧ a.2.2.1.length < 2 ^ 7000 ∧ a.2.2.2 < Most)
  (fun a r o => ∃ x d', x ∈ a.2.2.1 ∧ r = (.sh, x) ∧ o = [d'] ∧ BoxOk (a.2.2.2 + 1) d') noExc
def w_l_of (kl : Kl) : WS :=
(sRet (w2 (fIxK kl) (oLoc 1) (oTmp (wCall sp_l_take (aCons (oLoc 0) (aCons (oTmp (wN (fLenK kl) (aCons (oLoc 1) aNil))) aNil))))))
theorem sq_len {kl : Kl} {r : R} {ds : List D} (h : sqD r.2 = some ds) (Q : R → Prop) : fLenK kl [r] Q = Q (.sh, .int ds.length) := by
  obtain ⟨m, d⟩ := r
  cases d <;> first | (cases h; rfl) | cases h
theorem sq_ix {kl : Kl} {r : R} {ds : List D} (h : sqD r.2 = some ds) {k : Nat} {x : D} (hk : ds[k]? = some x) (Q : R → Prop) : fIxK kl r (.sh, .int k) Q = Q (.sh, x) := by
  obtain ⟨m, d⟩ := r
  cases d with
  | lst xs =>
    cases h
    simp only [fIxK, fIx]
    rw [atI_nat, hk]
  | tup xs =>
    cases h
    simp only [fIxK, fIx]
    rw [atI_nat, hk]
  | _ => cases h
theorem vc_l_of (kl : Kl) : VC sp_l_of 2 (w_l_of kl) := FS.vc fun ⟨d, r, ds, c⟩ hp Q E hQ => by
  obtain ⟨hb, hs, hm, h0, hl, hc⟩ := hp
  simp only at hb hs hm h0 hl hc hQ
  simp only [w_l_of, sSeq, sAsg, sIf, sExpr, sRet, sRetN, sNext, sAug, sPar, parW, sFor, sBreak, sCont, wTB, wTV, wAndT, wOrT, wNotT, wAndE, wOrE, wNotE, wIf, w1, w2, wN, wC, wVar, wMove, wMut, wComp, wCall, wSl, oTmp, oLoc, aNil, aCons, aRev, res, ress, callA, takeA, nextR, backA, putB, gN, gTp, gsCons, gsNil, gIx, canSet, okR, okM, pNone, pInt, fAdd, fSub, fMul, fDiv, fMod, fPow, fShr, fShl, fAnd, fNeg, fCmp, fLt, fLe, fGt, fGe, fEq, fIs, fAbs, fIntOf, fAddI, fMulI, fLst, fTup, shs, fSeq, fZip, fRev, mAppend, mExtend, mPop0, mPopAt, D.isLst, locs, lend, lendI, lent, home, homeI, back1, wipeR, unwipe, homeD, wYes, List.getElem?_cons_zero, List.getElem?_cons_succ, List.set_cons_zero, List.set_cons_succ, List.length_cons, List.length_nil, List.headD_cons, List.headD_nil, List.tail_cons, List.tail_nil, List.reverse_cons, List.reverse_nil, List.nil_append, List.cons_append, Nat.zero_add, Bool.false_eq_true, if_true, if_false, ite_true, ite_false, List.contains_cons, List.contains_nil, initR, edOf, outsOf, slotR, List.map_cons, List.map_nil, List.replicate_succ, List.replicate_zero, List.append_nil, Nat.reduceAdd, Nat.reduceSub, Nat.reduceMul, FS_pm, FS_ar, Mo.own, sI, sD, nv, iv, pair_eta]
  rw [sq_len hs]
  refine ⟨rfl, (d, ds.length, c), rfl, ⟨hb, h0, hl, hc⟩, ?_, fun _ _ z => z.elim⟩
  rintro _ _ ⟨x, d', hx, rfl, rfl, hb'⟩
  refine ⟨trivial, ?_⟩
  simp only [sSeq, sAsg, sIf, sExpr, sRet, sRetN, sNext, sAug, sPar, parW, sFor, sBreak, sCont, wTB, wTV, wAndT, wOrT, wNotT, wAndE, wOrE, wNotE, wIf, w1, w2, wN, wC, wVar, wMove, wMut, wComp, wCall, wSl, oTmp, oLoc, aNil, aCons, aRev, res, ress, callA, takeA, nextR, backA, putB, gN, gTp, gsCons, gsNil, gIx, canSet, okR, okM, pNone, pInt, fAdd, fSub, fMul, fDiv, fMod, fPow, fShr, fShl, fAnd, fNeg, fCmp, fLt, fLe, fGt, fGe, fEq, fIs, fAbs, fIntOf, fAddI, fMulI, fLst, fTup, shs, fSeq, fZip, fRev, mAppend, mExtend, mPop0, mPopAt, D.isLst, locs, lend, lendI, lent, home, homeI, back1, wipeR, unwipe, homeD, wYes, List.getElem?_cons_zero, List.getElem?_cons_succ, List.set_cons_zero, List.set_cons_succ, List.length_cons, List.length_nil, List.headD_cons, List.headD_nil, List.tail_cons, List.tail_nil, List.reverse_cons, List.reverse_nil, List.nil_append, List.cons_append, Nat.zero_add, Bool.false_eq_true, if_true, if_false, ite_true, ite_false, List.contains_cons, List.contains_nil, initR, edOf, outsOf, slotR, List.map_cons, List.map_nil, List.replicate_succ, List.replicate_zero, List.append_nil, Nat.reduceAdd, Nat.reduceSub, Nat.reduceMul, FS_pm, FS_ar, Mo.own, sI, sD, nv, iv, pair_eta]
  have hx2 : x < ds.length := hx
  rw [sq_ix hs (show ds[x]? = some ds[x] by simp [hx2])]
  refine hQ _ _ ⟨ds[x], d', List.getElem_mem _, rfl, ?_, hb'⟩
  obtain ⟨m, e⟩ := r
  cases m <;> first | rfl | exact absurd rfl hm
end G
end
section
set_option Elab.async false
set_option linter.all false
set_option maxRecDepth 100000
set_option maxHeartbeats 1000000
set_option exponentiation.threshold 100000
namespace G
open PySem PySem.Spec L2
def free : Slot → Prop
  | .un => True
  | .dat .sh _ => True
  | .dat .ow _ => True
  | .dat .fr _ => True
  | _ => False
theorem canSet_of {ρ : Rh} {i : Nat} {s : Slot} (h : ρ[i]? = some s) (f : free s) : canSet ρ i := by
  unfold canSet
  rw [h]
  unfold free at f
  split <;> first | trivial | (split at f <;> first | trivial | simp_all)
theorem free_sh (d : D) : free (.dat .sh d) := trivial
theorem rng_get {lo : Int} {n j : Nat} {d : D} (h : (rng lo n)[j]? = some d) : d = .int (lo + j) ∧ j < n := by
  have hl := (List.getElem?_eq_some_iff.mp h).1
  rw [rng_len] at hl
  unfold rng at h
  rw [List.getElem?_map] at h
  simp [hl] at h
  exact ⟨h.symm, hl⟩
theorem range1 {m : Mo} {j : Int} (h : -(2 ^ 62) ≤ j ∧ j < 2 ^ 62) : fRange1 [(m, .int j)] (rng 0 j.toNat) := ⟨h, rfl⟩
abbrev sp_l_split : FSpec := FS (α := D × Nat × Nat × Nat) 3 [true] (fun a => [(.bo, a.1), nv a.2.1, nv a.2.2.1]) (fun a => BoxOk a.2.2.2 a.1 ∧ 0 < a.2.2.1 ∧ a.2.2.1 ≤ a.2.1 ∧ a.2.1 < 2 ^ 6000 ∧ a.2.2.1 < 2 ^ 20 ∧ a.2.2.2 + a.2.2.1 < Most)
  (fun a r o => ∃ xs d', r = (.ow, .lst (natsD xs)) ∧ o = [d'] ∧ xs.length = a.2.2.1 ∧ xs.sum = a.2.1 ∧ (∀ x ∈ xs, 0 < x) ∧ BoxOk (a.2.2.2 + a.2.2.1) d') noExc
def w_l_split (kl : Kl) : WS :=
(sSeq (sPar [3, 4] (aCons (oTmp (w2 fSub (oLoc 1) (oLoc 2))) (aCons (oTmp (wN fLst aNil)) aNil)))
(sSeq (sFor fRange1 (aCons (oTmp (w2 fSub (oLoc 2) (oTmp (wC (.int 1))))) aNil) (gN 5)
(sSeq (sAsg (wCall sp_l_take (aCons (oLoc 0) (aCons (oTmp (w2 fAdd (oLoc 3) (oTmp (wC (.int 1))))) aNil))) (gN 6))
(sSeq (sAsg (w2 fSub (oLoc 3) (oLoc 6)) (gN 3))
(sExpr (wMut 4 D.isLst mAppend (aCons (oTmp (w2 fAdd (oTmp (wC (.int 1))) (oLoc 6))) aNil))))))
(sRet (w2 fAdd (oLoc 4) (oTmp (wN fLst (aCons (oTmp (w2 fAdd (oTmp (wC (.int 1))) (oLoc 3))) aNil)))))))
theorem sizeLine_big : 2 ^ 20 + 2 ^ 20 ≤ sizeLine := by rw [sizeLine_eq]; decide
theorem natsD_app (xs ys : List Nat) : natsD (xs ++ ys) = natsD xs ++ natsD ys := by simp [natsD]
theorem vc_l_split (kl : Kl) : VC sp_l_split 7 (w_l_split kl) := FS.vc fun ⟨d, total, many, c⟩ hp Q E hQ => by
  obtain ⟨hb, h1, h2, h3, h4, h5⟩ := hp
  simp only at hb h1 h2 h3 h4 h5 hQ
  have hz := sizeLine_big
  refine ⟨by decide, trivial, trivial, ?_⟩
  refine ⟨_, range1 (j := (many : Int) - 1) (by omega), ?_⟩
  refine forBy0 (fun i ρ => ∃ d' xs left t m, ρ = [.dat .bo d', sI total, sI many, sI (left : Nat), .dat .ow (.lst (natsD xs)), t, m] ∧ free t ∧ free m ∧ xs.length = i ∧ xs.sum + left + (many - i) = total ∧ (∀ x ∈ xs, 0 < x) ∧ BoxOk (c + i) d') ?_ ?_ ?_
  · refine ⟨d, [], total - many, .un, .un, ?_, trivial, trivial, rfl, by simp; omega, by simp, hb⟩
    have : ((total : Int) - (many : Int)) = ((total - many : Nat) : Int) := by omega
    show [_, _, _, Slot.dat .sh (.int ((total : Int) - (many : Int))), _, _, _] = _
    rw [this]
    rfl
  · rintro j dj _ N hj ⟨d', xs, left, t, m, rfl, ft, fm, hl, hs, hx, hb'⟩ hN
    obtain ⟨rfl, hjn⟩ := rng_get hj
    have hjn : j < many - 1 := by omega
    refine ⟨canSet_of rfl ft, ?_⟩
    have e1 : ((left : Int) + 1) = ((left + 1 : Nat) : Int) := by simp
    simp only [sSeq, sAsg, sIf, sExpr, sRet, sRetN, sNext, sAug, sPar, parW, sFor, sBreak, sCont, wTB, wTV, wAndT, wOrT, wNotT, wAndE, wOrE, wNotE, wIf, w1, w2, wN, wC, wVar, wMove, wMut, wComp, wCall, wSl, oTmp, oLoc, aNil, aCons, aRev, res, ress, callA, takeA, nextR, backA, putB, gN, gTp, gsCons, gsNil, gIx, canSet, okR, okM, pNone, pInt, fAdd, fSub, fMul, fDiv, fMod, fPow, fShr, fShl, fAnd, fNeg, fCmp, fLt, fLe, fGt, fGe, fEq, fIs, fIx, fIxK, fLen, fLenK, fAbs, fIntOf, fAddI, fMulI, fLst, fTup, shs, fSeq, fZip, fRev, mAppend, mExtend, mPop0, mPopAt, D.isLst, locs, lend, lendI, lent, home, homeI, back1, wipeR, unwipe, homeD, wYes, List.getElem?_cons_zero, List.getElem?_cons_succ, List.set_cons_zero, List.set_cons_succ, List.length_cons, List.length_nil, List.headD_cons, List.headD_nil, List.tail_cons, List.tail_nil, List.reverse_cons, List.reverse_nil, List.nil_append, List.cons_append, Nat.zero_add, Bool.false_eq_true, if_true, if_false, ite_true, ite_false, List.contains_cons, List.contains_nil, initR, edOf, outsOf, slotR, List.map_cons, List.map_nil, List.replicate_succ, List.replicate_zero, List.append_nil, Nat.reduceAdd, Nat.reduceSub, Nat.reduceMul, FS_pm, FS_ar, Mo.own, sI, sD, nv, iv, e1]
    refine ⟨trivial, (d', left + 1, c + j), rfl, ⟨hb', by simp, ?_, ?_⟩, ?_, fun _ _ z => z.elim⟩
    · show left + 1 < 2 ^ 7000
      have : total + 1 < 2 ^ 7000 := add_lt_pow (j := 6000) (k := 64) h3 (by decide) (by decide) (by decide)
      omega
    · show c + j < Most
      omega
    rintro _ _ ⟨x, d2, hx2, rfl, rfl, hb2⟩
    have hx2 : x < left + 1 := hx2
    have e2 : ((left : Int) - (x : Int)) = ((left - x : Nat) : Int) := by omega
    have e3 : ((1 : Int) + (x : Int)) = ((1 + x : Nat) : Int) := by simp
    simp only [sSeq, sAsg, sIf, sExpr, sRet, sRetN, sNext, sAug, sPar, parW, sFor, sBreak, sCont, wTB, wTV, wAndT, wOrT, wNotT, wAndE, wOrE, wNotE, wIf, w1, w2, wN, wC, wVar, wMove, wMut, wComp, wCall, wSl, oTmp, oLoc, aNil, aCons, aRev, res, ress, callA, takeA, nextR, backA, putB, gN, gTp, gsCons, gsNil, gIx, canSet, okR, okM, pNone, pInt, fAdd, fSub, fMul, fDiv, fMod, fPow, fShr, fShl, fAnd, fNeg, fCmp, fLt, fLe, fGt, fGe, fEq, fIs, fIx, fIxK, fLen, fLenK, fAbs, fIntOf, fAddI, fMulI, fLst, fTup, shs, fSeq, fZip, fRev, mAppend, mExtend, mPop0, mPopAt, D.isLst, locs, lend, lendI, lent, home, homeI, back1, wipeR, unwipe, homeD, wYes, List.getElem?_cons_zero, List.getElem?_cons_succ, List.set_cons_zero, List.set_cons_succ, List.length_cons, List.length_nil, List.headD_cons, List.headD_nil, List.tail_cons, List.tail_nil, List.reverse_cons, List.reverse_nil, List.nil_append, List.cons_append, Nat.zero_add, Bool.false_eq_true, if_true, if_false, ite_true, ite_false, List.contains_cons, List.contains_nil, initR, edOf, outsOf, slotR, List.map_cons, List.map_nil, List.replicate_succ, List.replicate_zero, List.append_nil, Nat.reduceAdd, Nat.reduceSub, Nat.reduceMul, FS_pm, FS_ar, Mo.own, sI, sD, nv, iv, e2, e3]
    have cm : canSet [Slot.dat .bo d2, sI total, sI many, sI left, .dat .ow (.lst (natsD xs)), sI (0 + j), m] 6 := canSet_of rfl fm
    refine ⟨trivial, cm, trivial, trivial, trivial, by rw [natsD_len, hl]; omega, hN _ ⟨d2, xs ++ [1 + x], left - x, sI (0 + j), sI x, ?_, trivial, trivial, by simp [hl], ?_, ?_, hb2⟩⟩
    · rw [natsD_app]; rfl
    · simp; omega
    · intro y hy
      rcases List.mem_append.mp hy with hy | hy
      · exact hx y hy
      · simp at hy; omega
  · rintro ρ ⟨d', xs, left, t, m, rfl, ft, fm, hl, hs, hx, hb'⟩
    rw [rng_len] at hl hs hb'
    have e3 : ((1 : Int) + (left : Int)) = ((1 + left : Nat) : Int) := by simp
    simp only [sSeq, sAsg, sIf, sExpr, sRet, sRetN, sNext, sAug, sPar, parW, sFor, sBreak, sCont, wTB, wTV, wAndT, wOrT, wNotT, wAndE, wOrE, wNotE, wIf, w1, w2, wN, wC, wVar, wMove, wMut, wComp, wCall, wSl, oTmp, oLoc, aNil, aCons, aRev, res, ress, callA, takeA, nextR, backA, putB, gN, gTp, gsCons, gsNil, gIx, canSet, okR, okM, pNone, pInt, fAdd, fSub, fMul, fDiv, fMod, fPow, fShr, fShl, fAnd, fNeg, fCmp, fLt, fLe, fGt, fGe, fEq, fIs, fIx, fIxK, fLen, fLenK, fAbs, fIntOf, fAddI, fMulI, fLst, fTup, shs, fSeq, fZip, fRev, mAppend, mExtend, mPop0, mPopAt, D.isLst, locs, lend, lendI, lent, home, homeI, back1, wipeR, unwipe, homeD, wYes, List.getElem?_cons_zero, List.getElem?_cons_succ, List.set_cons_zero, List.set_cons_succ, List.length_cons, List.length_nil, List.headD_cons, List.headD_nil, List.tail_cons, List.tail_nil, List.reverse_cons, List.reverse_nil, List.nil_append, List.cons_append, Nat.zero_add, Bool.false_eq_true, if_true, if_false, ite_true, ite_false, List.contains_cons, List.contains_nil, initR, edOf, outsOf, slotR, List.map_cons, List.map_nil, List.replicate_succ, List.replicate_zero, List.append_nil, Nat.reduceAdd, Nat.reduceSub, Nat.reduceMul, FS_pm, FS_ar, Mo.own, sI, sD, nv, iv, e3]
    have hl2 : xs.length = many - 1 := by omega
    refine ⟨by decide, nofun, nofun, by rw [natsD_len, hl2]; omega, hQ _ _ ⟨xs ++ [1 + left], d', ?_, rfl, by simp; omega, by simp; omega, ?_, hb'.mono (by omega)⟩⟩
    · rw [natsD_app]; rfl
    · intro y hy
      rcases List.mem_append.mp hy with hy | hy
      · exact hx y hy
      · simp at hy; omega
end G
end
section
set_option Elab.async false
set_option linter.all false
set_option maxRecDepth 100000
set_option maxHeartbeats 1000000
set_option exponentiation.threshold 100000
namespace G
open PySem PySem.Spec L2
def intsD (xs : List Int) : List D := xs.map D.int
theorem toPys_ints : ∀ xs : List Int, toPys (intsD xs) = some (xs.map PyData.int)
  | [] => by unfold intsD toPys; rfl
  | x :: xs => by
    show toPys (.int x :: intsD xs) = _
    unfold toPys
    rw [toPys_ints xs]
    unfold toPy
    rfl
theorem toPy_ints (xs : List Int) : toPy (.lst (intsD xs)) = some (.list (xs.map PyData.int)) := by
  unfold toPy
  rw [toPys_ints]
theorem toPy_tints (xs : List Int) : toPy (.tup (intsD xs)) = some (.tuple (xs.map PyData.int)) := by
  unfold toPy
  rw [toPys_ints]
theorem canLay_ints : ∀ xs : List Int, PyData.canLayAll0 (xs.map PyData.int) = true
  | [] => rfl
  | x :: xs => by
    show (PyData.canLay0 (.int x) && PyData.canLayAll0 (xs.map PyData.int)) = true
    rw [canLay_ints xs]
    rfl
theorem depth_ints : ∀ xs : List Int, PyData.depthAll (xs.map PyData.int) = 0
  | [] => rfl
  | x :: xs => by
    show max (PyData.depth (.int x)) (PyData.depthAll (xs.map PyData.int)) = 0
    rw [depth_ints xs]
    rfl
theorem eqv_ints : ∀ xs ys : List Int, PyData.eqvAll (xs.map PyData.int) (ys.map PyData.int) = decide (xs = ys)
  | [], [] => by simp [PyData.eqvAll]
  | x :: xs, y :: ys => by
    show (PyData.eqv (.int x) (.int y) && PyData.eqvAll (xs.map PyData.int) (ys.map PyData.int)) = _
    rw [eqv_ints xs ys]
    show ((x == y) && decide (xs = ys)) = _
    by_cases h : x = y <;> by_cases h2 : xs = ys <;> simp [h, h2]
  | [], _ :: _ => by simp [PyData.eqvAll]
  | _ :: _, [] => by simp [PyData.eqvAll]
theorem shaped_ints (xs : List Int) : SeqAt.shaped (.list (xs.map PyData.int)) = true ∧ SeqAt.shaped (.tuple (xs.map PyData.int)) = true := by
  have h1 : PyData.canLay0 (.list (xs.map PyData.int)) = true := by unfold PyData.canLay0; exact canLay_ints xs
  have h2 : PyData.canLay0 (.tuple (xs.map PyData.int)) = true := by unfold PyData.canLay0; exact canLay_ints xs
  have h3 : PyData.depth (.list (xs.map PyData.int)) = 1 := by unfold PyData.depth; rw [depth_ints]
  have h4 : PyData.depth (.tuple (xs.map PyData.int)) = 1 := by unfold PyData.depth; rw [depth_ints]
  unfold SeqAt.shaped
  rw [h1, h2, h3, h4]
  decide
theorem fEq_ints {neg : Bool} {m n : Mo} {xs ys : List Int} {Q : R → Prop} (h : Q (.sh, .bl (neg ^^ decide (xs = ys)))) : fEq neg (m, .lst (intsD xs)) (n, .lst (intsD ys)) Q := by
  unfold fEq
  simp only
  rw [toPy_ints, toPy_ints]
  refine ⟨(shaped_ints xs).1, (shaped_ints ys).1, ?_⟩
  have : PyData.eqv (.list (xs.map PyData.int)) (.list (ys.map PyData.int)) = decide (xs = ys) := by
    unfold PyData.eqv
    exact eqv_ints xs ys
  rw [this]
  exact h
theorem fEq_tints {neg : Bool} {m n : Mo} {xs ys : List Int} {Q : R → Prop} (h : Q (.sh, .bl (neg ^^ decide (xs = ys)))) : fEq neg (m, .tup (intsD xs)) (n, .tup (intsD ys)) Q := by
  unfold fEq
  simp only
  rw [toPy_tints, toPy_tints]
  refine ⟨(shaped_ints xs).2, (shaped_ints ys).2, ?_⟩
  have : PyData.eqv (.tuple (xs.map PyData.int)) (.tuple (ys.map PyData.int)) = decide (xs = ys) := by
    unfold PyData.eqv
    exact eqv_ints xs ys
  rw [this]
  exact h
theorem shown_int_len {i : Int} {k : Nat} (hk : 1 ≤ k) (h : i.natAbs < 10 ^ k) : (PyData.int i).shown.length ≤ k + 1 := by
  have e : (PyData.int i).shown = Str.ofString (toString i) := rfl
  rw [e, PyProof.Rows.ofString_len]
  have hd : ∀ n : Nat, n < 10 ^ k → (toString n).length ≤ k := fun n hn => by
    have e : toString n = String.ofList (Nat.toDigits 10 n) := rfl
    rw [e, String.length_ofList]
    exact toDigits_len_pow (by decide) hk hn
  cases i with
  | ofNat n =>
    have := hd n h
    show (toString n).length ≤ _
    omega
  | negSucc n =>
    have := hd (n + 1) h
    show ("-" ++ toString (n + 1)).length ≤ _
    rw [String.length_append]
    have : ("-" : String).length = 1 := rfl
    omega
def Small (i : Int) : Prop := i.natAbs < 2 ^ 1900
theorem Small.log {i : Int} (h : Small i) : i.natAbs.log2 < 1920 := by
  by_cases h0 : i.natAbs = 0
  · rw [h0]; decide
  · have := (Nat.log2_lt h0).mpr h
    omega
theorem Small.len {i : Int} (h : Small i) : (PyData.int i).shown.length ≤ 600 := by
  refine Nat.le_trans (shown_int_len (k := 580) (by decide) (Nat.lt_trans h (by decide +kernel))) (by decide)
theorem showable_ints : ∀ xs : List Int, (∀ x ∈ xs, Small x) → PyData.showableAll (xs.map PyData.int) = true ∧ PyData.hasDictAll (xs.map PyData.int) = false ∧ PyData.leavesShortAll 600 (xs.map PyData.int) = true ∧ PyData.bulkAll (xs.map PyData.int) = xs.length
  | [], _ => by simp [PyData.showableAll, PyData.hasDictAll, PyData.leavesShortAll, PyData.bulkAll]
  | x :: xs, h => by
    obtain ⟨h1, h2, h3, h4⟩ := showable_ints xs fun y hy => h y (List.mem_cons_of_mem _ hy)
    have hx := h x List.mem_cons_self
    have hl := hx.log
    have hn := hx.len
    simp only [List.map_cons, PyData.showableAll, PyData.hasDictAll, PyData.leavesShortAll, PyData.bulkAll, PyData.showable, PyData.hasDict, PyData.leavesShort, PyData.bulk, h1, h2, h3, h4, List.length_cons]
    refine ⟨by simp [hl], rfl, by simp [hn], by omega⟩
theorem reprOk_ints {xs : List Int} (h : ∀ x ∈ xs, Small x) (hl : xs.length ≤ 10000) : ReprOk (.list (xs.map PyData.int)) ∧ ReprOk (.tuple (xs.map PyData.int)) := by
  obtain ⟨h1, h2, h3, h4⟩ := showable_ints xs h
  have hb := PyData.shown_le_bulk 600 (by decide) (.list (xs.map PyData.int)) (by unfold PyData.leavesShort; exact h3)
  have ht := PyData.shown_le_bulk 600 (by decide) (.tuple (xs.map PyData.int)) (by unfold PyData.leavesShort; exact h3)
  have e1 : PyData.bulk (.list (xs.map PyData.int)) = xs.length := by unfold PyData.bulk; exact h4
  have e2 : PyData.bulk (.tuple (xs.map PyData.int)) = xs.length := by unfold PyData.bulk; exact h4
  have d1 : PyData.depth (.list (xs.map PyData.int)) = 1 := by unfold PyData.depth; rw [depth_ints]
  have d2 : PyData.depth (.tuple (xs.map PyData.int)) = 1 := by unfold PyData.depth; rw [depth_ints]
  have hz : 602 * 10000 + 600 ≤ sizeLine := by rw [sizeLine_eq]; decide
  refine ⟨⟨by unfold PyData.showable; exact h1, by unfold PyData.hasDict; exact h2, by rw [d1]; decide, ?_⟩, ⟨by unfold PyData.showable; exact h1, by unfold PyData.hasDict; exact h2, by rw [d2]; decide, ?_⟩⟩
  · rw [e1] at hb
    omega
  · rw [e2] at ht
    omega
def txt (xs : List Int) : Str := (PyData.list (xs.map PyData.int)).shown
theorem fRepr_ints {m : Mo} {xs : List Int} {Q : R → Prop} (h : ∀ x ∈ xs, Small x) (hl : xs.length ≤ 10000) (hq : Q (.sh, .str (txt xs))) : fRepr [(m, .lst (intsD xs))] Q := by
  unfold fRepr
  simp only
  rw [toPy_ints]
  exact ⟨(reprOk_ints h hl).1, hq⟩
theorem small_nat {n : Nat} (h : n < 2 ^ 1900) : Small (n : Int) := h
abbrev sp_l_places : FSpec := FS (α := D × R × List Nat × Nat × Nat) 3 [true] (fun a => [(.bo, a.1), a.2.1, nv a.2.2.2.1])
  (fun a => BoxOk a.2.2.2.2 a.1 ∧ sqD a.2.1.2 = some (natsD a.2.2.1) ∧ a.2.1.1 ≠ .bo ∧ a.2.2.1.length + a.2.2.2.1 < 2 ^ 20 ∧ a.2.2.2.2 + a.2.2.1.length + a.2.2.2.1 < Most)
  (fun a r o => ∃ ys d', r = (.sh, rowD ys) ∧ o = [d'] ∧ ys.Perm (a.2.2.1 ++ List.replicate a.2.2.2.1 0) ∧ BoxOk (a.2.2.2.2 + a.2.2.1.length + a.2.2.2.1) d') noExc
def w_l_places (kl : Kl) : WS :=
(sSeq (sPar [3, 4] (aCons (oTmp (w2 fAdd (oTmp (wN fListOf (aCons (oLoc 1) aNil))) (oTmp (w2 fMul (oTmp (wN fLst (aCons (oTmp (wC (.int 0))) aNil))) (oLoc 2))))) (aCons (oTmp (wN fLst aNil)) aNil)))
(sSeq (sWhile (wTB (w2 (fEq true) (oLoc 3) (oTmp (wN fLst aNil))))
(sExpr (wMut 4 D.isLst mAppend (aCons (oTmp (wMut 3 D.isLst mPopAt (aCons (oTmp (wCall sp_l_take (aCons (oLoc 0) (aCons (oTmp (wN (fLenK kl) (aCons (oLoc 3) aNil))) aNil)))) aNil))) aNil))))
(sRet (wN fTupOf (aCons (oLoc 4) aNil)))))
theorem sq_list {r : R} {ds : List D} (h : sqD r.2 = some ds) (Q : R → Prop) : fListOf [r] Q = Q (.ow, .lst ds) := by
  obtain ⟨m, d⟩ := r
  cases d <;> first | (cases h; rfl) | cases h
theorem zeros_flat (n : Nat) : (List.replicate n [D.int 0]).flatten = natsD (List.replicate n 0) := by
  induction n with
  | zero => rfl
  | succ n ih =>
    rw [List.replicate_succ, List.flatten_cons, ih, List.replicate_succ]
    rfl
theorem natsD_ints (xs : List Nat) : natsD xs = intsD (xs.map Int.ofNat) := by
  unfold natsD intsD
  rw [List.map_map]
  rfl
theorem seqIx_nat {k n : Nat} (h : k < n) : seqIndex? (k : Int) n = some k := by
  unfold seqIndex?
  have h1 : ¬ ((k : Int) < 0) := by omega
  simp only [h1, if_false]
  have h2 : ((0 : Int) ≤ (k : Int)) := by omega
  have h3 : ((k : Int) < (n : Int)) := by omega
  simp [h2, h3]
theorem natsD_erase : ∀ (xs : List Nat) (k : Nat), (natsD xs).eraseIdx k = natsD (xs.eraseIdx k)
  | [], k => by simp [natsD]
  | x :: xs, 0 => rfl
  | x :: xs, k + 1 => by
    show (D.int x :: natsD xs).eraseIdx (k + 1) = _
    rw [List.eraseIdx_cons_succ, natsD_erase xs k, List.eraseIdx_cons_succ]
    rfl
theorem perm_erase {α : Type} : ∀ {xs : List α} {k : Nat} {y : α}, xs[k]? = some y → (y :: xs.eraseIdx k).Perm xs
  | [], k, y, h => by simp at h
  | x :: xs, 0, y, h => by simp at h; subst h; exact .refl _
  | x :: xs, k + 1, y, h => by
    rw [List.eraseIdx_cons_succ]
    exact (List.Perm.swap _ _ _).trans ((perm_erase (xs := xs) (by simpa using h)).cons x)
theorem outs_skip {r : R} {rs : List R} {s : Slot} {ρ : Rh} (h : r.1 ≠ .bo) : outsOf (r :: rs) (s :: ρ) = outsOf rs ρ := by
  obtain ⟨m, d⟩ := r
  cases m <;> first | rfl | exact absurd rfl h
theorem vc_l_places (kl : Kl) : VC sp_l_places 5 (w_l_places kl) := FS.vc fun ⟨d, r, xs, k, c⟩ hp Q E hQ => by
  obtain ⟨hb, hs, hm, hl, hc⟩ := hp
  simp only at hb hs hm hl hc hQ
  have hz := sizeLine_big
  simp only [w_l_places, sSeq, sAsg, sIf, sExpr, sRet, sRetN, sNext, sAug, sPar, parW, sFor, sBreak, sCont, wTB, wTV, wAndT, wOrT, wNotT, wAndE, wOrE, wNotE, wIf, w1, w2, wN, wC, wVar, wMove, wMut, wComp, wCall, wSl, oTmp, oLoc, aNil, aCons, aRev, res, ress, callA, takeA, nextR, backA, putB, gN, gTp, gsCons, gsNil, gIx, canSet, okR, okM, pNone, pInt, fAdd, fSub, fMul, fDiv, fMod, fPow, fShr, fShl, fAnd, fNeg, fCmp, fLt, fLe, fGt, fGe, fEq, fIs, fAbs, fIntOf, fAddI, fMulI, fLst, fTup, shs, fSeq, fZip, fRev, mAppend, mExtend, mPop0, mPopAt, D.isLst, locs, lend, lendI, lent, home, homeI, back1, wipeR, unwipe, homeD, wYes, List.getElem?_cons_zero, List.getElem?_cons_succ, List.set_cons_zero, List.set_cons_succ, List.length_cons, List.length_nil, List.headD_cons, List.headD_nil, List.tail_cons, List.tail_nil, List.reverse_cons, List.reverse_nil, List.nil_append, List.cons_append, Nat.zero_add, Bool.false_eq_true, if_true, if_false, ite_true, ite_false, List.contains_cons, List.contains_nil, initR, edOf, outsOf, slotR, List.map_cons, List.map_nil, List.replicate_succ, List.replicate_zero, List.append_nil, Nat.reduceAdd, Nat.reduceSub, Nat.reduceMul, FS_pm, FS_ar, Mo.own, sI, sD, nv, iv, pair_eta]
  rw [sq_list hs]
  simp only [sSeq, sAsg, sIf, sExpr, sRet, sRetN, sNext, sAug, sPar, parW, sFor, sBreak, sCont, wTB, wTV, wAndT, wOrT, wNotT, wAndE, wOrE, wNotE, wIf, w1, w2, wN, wC, wVar, wMove, wMut, wComp, wCall, wSl, oTmp, oLoc, aNil, aCons, aRev, res, ress, callA, takeA, nextR, backA, putB, gN, gTp, gsCons, gsNil, gIx, canSet, okR, okM, pNone, pInt, fAdd, fSub, fMul, fDiv, fMod, fPow, fShr, fShl, fAnd, fNeg, fCmp, fLt, fLe, fGt, fGe, fEq, fIs, fAbs, fIntOf, fAddI, fMulI, fLst, fTup, shs, fSeq, fZip, fRev, mAppend, mExtend, mPop0, mPopAt, D.isLst, locs, lend, lendI, lent, home, homeI, back1, wipeR, unwipe, homeD, wYes, List.getElem?_cons_zero, List.getElem?_cons_succ, List.set_cons_zero, List.set_cons_succ, List.length_cons, List.length_nil, List.headD_cons, List.headD_nil, List.tail_cons, List.tail_nil, List.reverse_cons, List.reverse_nil, List.nil_append, List.cons_append, Nat.zero_add, Bool.false_eq_true, if_true, if_false, ite_true, ite_false, List.contains_cons, List.contains_nil, initR, edOf, outsOf, slotR, List.map_cons, List.map_nil, List.replicate_succ, List.replicate_zero, List.append_nil, Nat.reduceAdd, Nat.reduceSub, Nat.reduceMul, FS_pm, FS_ar, Mo.own, sI, sD, nv, iv, pair_eta, natsD_len]
  have ek : ((k : Int)).toNat = k := by simp
  rw [ek, zeros_flat]
  refine ⟨by omega, by decide, by omega, by omega, by omega, by decide, by decide, by rw [natsD_len, List.length_replicate]; omega, by omega, trivial, trivial, ?_⟩
  refine whileBy (α := D × List Nat × List Nat) (fun a => [.dat .bo a.1, slotR r, sI k, .dat .ow (.lst (natsD a.2.1)), .dat .ow (.lst (natsD a.2.2))]) (fun a => (a.2.2 ++ a.2.1).Perm (xs ++ List.replicate k 0) ∧ BoxOk (c + a.2.2.length) a.1) (fun a => a.2.1.length) (d, xs ++ List.replicate k 0, []) ?_ ⟨by simp, hb⟩ ?_
  · simp only [natsD_app]; rfl
  rintro ⟨d', ls, fs⟩ ⟨hp, hb'⟩
  simp only at hp hb'
  have hlen : fs.length + ls.length = xs.length + k := by
    have := hp.length_eq
    simpa using this
  simp only [sSeq, sAsg, sIf, sExpr, sRet, sRetN, sNext, sAug, sPar, parW, sFor, sBreak, sCont, wTB, wTV, wAndT, wOrT, wNotT, wAndE, wOrE, wNotE, wIf, w1, w2, wN, wC, wVar, wMove, wMut, wComp, wCall, wSl, oTmp, oLoc, aNil, aCons, aRev, res, ress, callA, takeA, nextR, backA, putB, gN, gTp, gsCons, gsNil, gIx, canSet, okR, okM, pNone, pInt, fAdd, fSub, fMul, fDiv, fMod, fPow, fShr, fShl, fAnd, fNeg, fCmp, fLt, fLe, fGt, fGe, fIs, fAbs, fIntOf, fAddI, fMulI, fLst, fTup, shs, fSeq, fZip, fRev, mAppend, mExtend, mPop0, mPopAt, D.isLst, locs, lend, lendI, lent, home, homeI, back1, wipeR, unwipe, homeD, wYes, List.getElem?_cons_zero, List.getElem?_cons_succ, List.set_cons_zero, List.set_cons_succ, List.length_cons, List.length_nil, List.headD_cons, List.headD_nil, List.tail_cons, List.tail_nil, List.reverse_cons, List.reverse_nil, List.nil_append, List.cons_append, Nat.zero_add, Bool.false_eq_true, if_true, if_false, ite_true, ite_false, List.contains_cons, List.contains_nil, initR, edOf, outsOf, slotR, List.map_cons, List.map_nil, List.replicate_succ, List.replicate_zero, List.append_nil, Nat.reduceAdd, Nat.reduceSub, Nat.reduceMul, FS_pm, FS_ar, Mo.own, sI, sD, nv, iv, pair_eta]
  refine ⟨by decide, ?_⟩
  rw [natsD_ints ls]
  refine fEq_ints (ys := []) ?_
  rw [← natsD_ints]
  cases ls with
  | nil =>
    refine hQ _ _ ⟨fs, d', rfl, ?_, by simpa using hp, hb'.mono (by simp at hlen; omega)⟩
    show d' :: outsOf [r, nv k] [_, _, _, _] = [d']
    rw [outs_skip hm]
    rfl
  | cons y ys =>
    simp only [List.length_cons] at hlen
    refine ⟨trivial, trivial, rfl, (d', (y :: ys).length, c + fs.length), ?_, ⟨hb', by simp, ?_, ?_⟩, ?_, fun _ _ z => z.elim⟩
    · show [_, (Mo.sh, D.int ((natsD (y :: ys)).length : Nat))] = _
      rw [natsD_len]
      rfl
    · show ys.length + 1 < 2 ^ 7000
      exact Nat.lt_of_lt_of_le (by omega : ys.length + 1 < 2 ^ 20) (Nat.pow_le_pow_right (by decide) (by decide))
    · show c + fs.length < Most
      omega
    rintro _ _ ⟨x, d2, hx, rfl, rfl, hb2⟩
    have hx : x < (y :: ys).length := hx
    have hb2 : BoxOk (c + fs.length + 1) d2 := hb2
    refine ⟨trivial, trivial, by omega, ?_, ?_⟩
    · have : (x : Int) < 2 ^ 20 := by
        have : (y :: ys).length = ys.length + 1 := rfl
        omega
      omega
    show (match seqIndex? (x : Int) (natsD (y :: ys)).length with
      | some k => match (natsD (y :: ys))[k]? with
        | some z => _
        | none => False
      | none => False)
    rw [natsD_len, seqIx_nat hx]
    have hg : (natsD (y :: ys))[x]? = some (.int ((y :: ys)[x] : Nat)) := by
      unfold natsD
      rw [List.getElem?_map, List.getElem?_eq_getElem hx]
      rfl
    simp only [hg]
    refine ⟨trivial, ?_, _, ?_, (d2, (y :: ys).eraseIdx x, fs ++ [(y :: ys)[x]]), ?_, ⟨?_, ?_⟩, rfl⟩
    · rw [natsD_len]; omega
    · simp only [List.length_eraseIdx, hx, if_true]
      simp
    · simp only [natsD_erase, natsD_app]
      rfl
    · refine List.Perm.trans ?_ hp
      show (fs ++ [(y :: ys)[x]] ++ (y :: ys).eraseIdx x).Perm _
      rw [List.append_assoc]
      exact (perm_erase (show (y :: ys)[x]? = some (y :: ys)[x] by simp [hx])).append_left fs
    · show BoxOk (c + (fs ++ [(y :: ys)[x]]).length) d2
      simpa [Nat.add_assoc] using hb2
end G
end
section
set_option Elab.async false
set_option linter.all false
set_option maxRecDepth 100000
set_option maxHeartbeats 1000000
set_option exponentiation.threshold 100000
namespace G
open PySem PySem.Spec L2
theorem compNats {g : WGt} {t : WT} {e : WE} {vs : List Nat} {Q : List D → Rh → Prop} {ρ : Rh} (p : Nat → Bool) (f : Nat → Nat) {xs : List Nat} (hl : xs.length ≤ sizeLine)
    (hb : ∀ n ∈ xs, ∀ (acc : List D) (N : List D → Rh → Prop), acc.length < sizeLine → (p n = true → N (acc ++ [.int (f n)]) ρ) → (p n = false → N acc ρ) → turnW g t e vs (.int n) ρ acc N)
    (h : Q (natsD ((xs.filter p).map f)) ρ) : compW g t e vs (natsD xs) ρ [] Q := by
  refine compPure (optD p f) (by rw [natsD_len]; exact hl) ?_ (by rw [optD_nats]; exact h)
  intro d acc N hd ha hN
  obtain ⟨n, hn, rfl⟩ := mem_nats hd
  refine hb n hn acc N ha (fun hp => ?_) (fun hp => ?_)
  · have e : optD p f (.int n) = some (.int (f n)) := by simp [optD, hp]
    rw [e] at hN
    exact hN
  · have e : optD p f (.int n) = none := by simp [optD, hp]
    rw [e] at hN
    simp only [Option.toList, List.append_nil] at hN
    exact hN
theorem filter_yes {α : Type} (xs : List α) : xs.filter (fun _ => true) = xs := by simp
theorem compMap {g : WGt} {t : WT} {e : WE} {vs : List Nat} {Q : List D → Rh → Prop} {ρ : Rh} (f : Nat → Nat) {xs : List Nat} (hl : xs.length ≤ sizeLine)
    (hb : ∀ n ∈ xs, ∀ (acc : List D) (N : List D → Rh → Prop), acc.length < sizeLine → N (acc ++ [.int (f n)]) ρ → turnW g t e vs (.int n) ρ acc N)
    (h : Q (natsD (xs.map f)) ρ) : compW g t e vs (natsD xs) ρ [] Q :=
  compNats (fun _ => true) f hl (fun n hn acc N ha h1 _ => hb n hn acc N ha (h1 rfl)) (by rw [filter_yes]; exact h)
abbrev sp_l_line : FSpec := FS (α := D × Nat × Nat × Nat × Nat) 4 [true] (fun a => [(.bo, a.1), nv a.2.1, nv a.2.2.1, nv a.2.2.2.1])
  (fun a => BoxOk a.2.2.2.2 a.1 ∧ 0 < a.2.1 ∧ a.2.1 ≤ a.2.2.1 ∧ a.2.2.1 ≤ 100 ∧ a.2.2.2.1 < 2 ^ 1000 ∧ a.2.2.2.2 + 400 < Most)
  (fun a r o => ∃ xs d', r = (.sh, rowD xs) ∧ o = [d'] ∧ (∃ x ∈ xs, 0 < x) ∧ (a.2.1 ≤ hn xs ∧ hn xs ≤ a.2.2.1) ∧ xs.length ≤ a.2.2.1 + 2 ∧ (∀ x ∈ xs, x ≤ 16 * (a.2.2.2.1 + 200)) ∧ BoxOk (a.2.2.2.2 + 400) d') noExc
def w_l_line (kl : Kl) : WS :=
(sSeq (sAsg (w2 fAdd (oLoc 1) (oTmp (wCall sp_l_take (aCons (oLoc 0) (aCons (oTmp (w2 fAdd (oTmp (w2 fSub (oLoc 2) (oLoc 1))) (oTmp (wC (.int 1))))) aNil))))) (gN 4))
(sSeq (sAsg (wN fTup (aCons (oTmp (wCall sp_l_take (aCons (oLoc 0) (aCons (oTmp (wC (.int 6))) aNil)))) (aCons (oTmp (wCall sp_l_of (aCons (oLoc 0) (aCons (oTmp (wN fLst (aCons (oTmp (wC (.int 1))) (aCons (oTmp (wC (.int 1))) (aCons (oTmp (wC (.int 2))) (aCons (oTmp (wC (.int 3))) (aCons (oTmp (wC (.int 4))) (aCons (oTmp (wC (.int 6))) (aCons (oTmp (wC (.int 5))) aNil))))))))) aNil)))) aNil))) (gTp 2 (gsCons (gN 5) (gsCons (gN 6) gsNil))))
(sSeq (sAsg (wN fMax (aCons (oLoc 4) (aCons (oTmp (w2 fAdd (oTmp (wC (.int 1))) (oTmp (wCall sp_l_take (aCons (oLoc 0) (aCons (oTmp (wN fMax (aCons (oTmp (wC (.int 1))) (aCons (oTmp (w2 fDiv (oLoc 3) (oLoc 6))) aNil)))) aNil)))))) aNil))) (gN 7))
(sSeq (sAsg (wCall sp_l_split (aCons (oLoc 0) (aCons (oLoc 7) (aCons (oLoc 4) aNil)))) (gN 8))
(sSeq (sIf (wTB (w2 (fEq false) (oLoc 5) (oTmp (wC (.int 0)))))
(sAsg (wComp fSeq (aCons (oLoc 8) aNil) (gN 9) wYes (w2 fAdd (oTmp (w2 fMul (oTmp (wC (.int 2))) (oTmp (w2 fDiv (oLoc 9) (oTmp (wC (.int 2))))))) (oTmp (wC (.int 1)))) [9]) (gN 8))
(sIf (wTB (w2 (fEq false) (oLoc 5) (oTmp (wC (.int 1)))))
(sAsg (w2 fMul (oTmp (wN fLst (aCons (oTmp (w2 (fIxK kl) (oLoc 8) (oTmp (wC (.int 0))))) aNil))) (oLoc 4)) (gN 8))
(sIf (wTB (w2 (fEq false) (oLoc 5) (oTmp (wC (.int 2)))))
(sAsg (w2 fAdd (oTmp (wN fLst (aCons (oTmp (w2 (fIxK kl) (oLoc 8) (oTmp (wC (.int 0))))) aNil))) (oTmp (wComp fSeq (aCons (oTmp (wSl (oLoc 8) (pInt (wC (.int 1))) pNone)) aNil) (gN 9) wYes (w2 fMul (oTmp (wC (.int 2))) (oLoc 9)) [9]))) (gN 8))
sNext)))
(sRet (wCall sp_l_places (aCons (oLoc 0) (aCons (oTmp (wComp fSeq (aCons (oLoc 8) aNil) (gN 9) wYes (w2 fMul (oLoc 6) (oLoc 9)) [9])) (aCons (oTmp (wCall sp_l_of (aCons (oLoc 0) (aCons (oTmp (wN fLst (aCons (oTmp (wC (.int 0))) (aCons (oTmp (wC (.int 0))) (aCons (oTmp (wC (.int 0))) (aCons (oTmp (wC (.int 1))) (aCons (oTmp (wC (.int 2))) aNil))))))) aNil)))) aNil))))))))))
theorem mod_few {n k : Nat} (h : n ≤ k) (hk : k < 2 ^ 64 := by decide) : n < 2 ^ 7000 := Nat.lt_of_le_of_lt h (Nat.lt_of_lt_of_le hk (Nat.pow_le_pow_right (by decide) (by decide)))
theorem fMaxN {i j : Nat} {m n : Mo} {Q : R → Prop} (h : Q (nv (max i j))) : fMax [(m, .int (i : Int)), (n, .int (j : Int))] Q := by
  unfold fMax
  have e : (if (j : Int) > (i : Int) then (j : Int) else (i : Int)) = ((max i j : Nat) : Int) := by
    split <;> omega
  show Q (.sh, .int (if (j : Int) > (i : Int) then (j : Int) else (i : Int)))
  rw [e]
  exact h
theorem fMinN {i j : Nat} {m n : Mo} {Q : R → Prop} (h : Q (nv (min i j))) : fMin [(m, .int (i : Int)), (n, .int (j : Int))] Q := by
  unfold fMin
  have e : (if (j : Int) < (i : Int) then (j : Int) else (i : Int)) = ((min i j : Nat) : Int) := by
    split <;> omega
  show Q (.sh, .int (if (j : Int) < (i : Int) then (j : Int) else (i : Int)))
  rw [e]
  exact h
theorem line_end (kl : Kl) (d : D) (l g mo many way scale total c : Nat) (xs : List Nat) (a : Slot) (fa : free a) (ed : Ed) (hb : BoxOk c d) (hs0 : 0 < scale) (hs : scale ≤ 6) (hx : ∀ x ∈ xs, 0 < x) (hx0 : 0 < xs.length) (hl : xs.length ≤ 100) (hxl : ∀ x ∈ xs, x < 2 ^ 1100) (hc : c + 110 < Most)
    (h : ∀ ys d', hn ys = xs.length → (∃ x ∈ ys, 0 < x) → ys.length ≤ xs.length + 2 → (∀ y ∈ ys, y = 0 ∨ ∃ x ∈ xs, y = scale * x) → BoxOk (c + 103) d' → ed.rt (.sh, rowD ys) [.dat .bo d', sI l, sI g, sI mo, sI many, sI way, sI scale, sI total, .dat .ow (.lst (natsD xs)), a]) :
    (sRet (wCall sp_l_places (aCons (oLoc 0) (aCons (oTmp (wComp fSeq (aCons (oLoc 8) aNil) (gN 9) wYes (w2 fMul (oLoc 6) (oLoc 9)) [9])) (aCons (oTmp (wCall sp_l_of (aCons (oLoc 0) (aCons (oTmp (wN fLst (aCons (oTmp (wC (.int 0))) (aCons (oTmp (wC (.int 0))) (aCons (oTmp (wC (.int 0))) (aCons (oTmp (wC (.int 1))) (aCons (oTmp (wC (.int 2))) aNil))))))) aNil)))) aNil)))))
      [.dat .bo d, sI l, sI g, sI mo, sI many, sI way, sI scale, sI total, .dat .ow (.lst (natsD xs)), a] ed := by
  have hz := sizeLine_big
  refine ⟨_, rfl, ?_⟩
  refine compMap (fun x => scale * x) (by omega) (fun n hn acc N ha hN => ?_) ?_
  · refine ⟨trivial, mulOkN (j := 64) (k := 1100) (by omega) (hxl n hn), trivial, ha, ?_⟩
    have e : ((scale : Int) * (n : Int)) = ((scale * n : Nat) : Int) := by simp
    show N (acc ++ [.int ((scale : Int) * (n : Int))]) _
    rw [e]
    exact hN
  · refine ⟨by decide, rfl, (d, (.sh, .lst (natsD [0, 0, 0, 1, 2])), natsD [0, 0, 0, 1, 2], c), rfl, ⟨hb, rfl, nofun, Nat.succ_pos _, mod_few (k := 5) (Nat.le_refl 5), ?_⟩, ?_, fun _ _ z => z.elim⟩
    · show c < Most
      omega
    rintro _ _ ⟨x, d', hx', rfl, rfl, hb'⟩
    obtain ⟨k, hk, rfl⟩ := mem_nats hx'
    have hk : k ≤ 2 := by
      have hk : k ∈ [0, 0, 0, 1, 2] := hk
      simp at hk
      omega
    refine ⟨trivial, rfl, (d', (.sh, .lst (natsD (xs.map fun x => scale * x))), xs.map (fun x => scale * x), k, c + 1), rfl, ⟨hb', rfl, nofun, ?_, ?_⟩, ?_, fun _ _ z => z.elim⟩
    · show (xs.map fun x => scale * x).length + k < 2 ^ 20
      rw [List.length_map]; omega
    · show c + 1 + (xs.map fun x => scale * x).length + k < Most
      rw [List.length_map]; omega
    rintro _ _ ⟨ys, d2, rfl, rfl, hp, hb2⟩
    have hp : ys.Perm (xs.map (fun x => scale * x) ++ List.replicate k 0) := hp
    have hb2 : BoxOk (c + 1 + (xs.map fun x => scale * x).length + k) d2 := hb2
    rw [List.length_map] at hb2
    refine ⟨trivial, h ys d2 ?_ ?_ ?_ ?_ (hb2.mono (by omega))⟩
    · rw [hn_perm hp, hn_zeros, hn_pos, List.length_map]
      intro y hy
      obtain ⟨x, hx1, rfl⟩ := List.mem_map.mp hy
      exact Nat.mul_pos hs0 (hx x hx1)
    · obtain ⟨x, hx1⟩ : ∃ x, x ∈ xs := ⟨xs[0], List.getElem_mem _⟩
      have hx2 := hx x hx1
      exact ⟨scale * x, hp.mem_iff.mpr (List.mem_append_left _ (List.mem_map.mpr ⟨x, hx1, rfl⟩)), Nat.mul_pos hs0 hx2⟩
    · rw [hp.length_eq]; simp; omega
    · intro y hy
      rcases List.mem_append.mp (hp.mem_iff.mp hy) with h1 | h1
      · obtain ⟨x, hx1, rfl⟩ := List.mem_map.mp h1
        exact .inr ⟨x, hx1, rfl⟩
      · exact .inl (List.eq_of_mem_replicate h1)
theorem mem_le_sum : ∀ {xs : List Nat} {x : Nat}, x ∈ xs → x ≤ xs.sum
  | y :: ys, x, h => by
    rw [List.sum_cons]
    rcases List.mem_cons.mp h with rfl | h
    · omega
    · have := mem_le_sum h
      omega
theorem atI_hd {α : Type} (x : α) (xs : List α) : atI (x :: xs) 0 = some x := by
  have := atI_nat (x :: xs) 0
  simpa using this
theorem natsD_cons (x : Nat) (xs : List Nat) : natsD (x :: xs) = .int x :: natsD xs := rfl
theorem rep_flat (y n : Nat) : (List.replicate n [D.int (y : Int)]).flatten = natsD (List.replicate n y) := by
  induction n with
  | zero => rfl
  | succ n ih =>
    rw [List.replicate_succ, List.flatten_cons, ih, List.replicate_succ]
    rfl
theorem cut_one (x : D) (xs : List D) : cut (x :: xs) (some 1) none = xs := by
  simp [cut, HT.sIx]
theorem vc_l_line (kl : Kl) : VC sp_l_line 10 (w_l_line kl) := FS.vc fun ⟨d, l, g, mo, c⟩ hp Q E hQ => by
  obtain ⟨hb, h1, h2, h3, h4, h5⟩ := hp
  simp only at hb h1 h2 h3 h4 h5 hQ
  have hz := sizeLine_big
  have e1 : ((g : Int) - (l : Int) + 1) = ((g - l + 1 : Nat) : Int) := by omega
  -- how many
  refine seqK fun K hK => ?_
  simp only [sSeq, sAsg, sIf, sExpr, sRet, sRetN, sNext, sAug, sPar, parW, sFor, sBreak, sCont, wTB, wTV, wAndT, wOrT, wNotT, wAndE, wOrE, wNotE, wIf, w1, w2, wN, wC, wVar, wMove, wMut, wComp, wCall, wSl, oTmp, oLoc, aNil, aCons, aRev, res, ress, callA, takeA, nextR, backA, putB, gN, gTp, gsCons, gsNil, gIx, canSet, okR, okM, pNone, pInt, fAdd, fSub, fMul, fDiv, fMod, fPow, fShr, fShl, fAnd, fNeg, fCmp, fLt, fLe, fGt, fGe, fEq, fIs, fAbs, fIntOf, fAddI, fMulI, fLst, fTup, shs, fSeq, fZip, fRev, mAppend, mExtend, mPop0, mPopAt, D.isLst, locs, lend, lendI, lent, home, homeI, back1, wipeR, unwipe, homeD, wYes, List.getElem?_cons_zero, List.getElem?_cons_succ, List.set_cons_zero, List.set_cons_succ, List.length_cons, List.length_nil, List.headD_cons, List.headD_nil, List.tail_cons, List.tail_nil, List.reverse_cons, List.reverse_nil, List.nil_append, List.cons_append, Nat.zero_add, Bool.false_eq_true, if_true, if_false, ite_true, ite_false, List.contains_cons, List.contains_nil, initR, edOf, outsOf, slotR, List.map_cons, List.map_nil, List.replicate_succ, List.replicate_zero, List.append_nil, Nat.reduceAdd, Nat.reduceSub, Nat.reduceMul, FS_pm, FS_ar, Mo.own, sI, sD, nv, iv, pair_eta, e1]
  refine ⟨trivial, (d, g - l + 1, c), rfl, ⟨hb, by simp, mod_few (k := 101) (by simp only; omega), ?_⟩, ?_, fun _ _ z => z.elim⟩
  · show c < Most; omega
  rintro _ _ ⟨q, d1, hq, rfl, rfl, hb1⟩
  have hq : q < g - l + 1 := hq
  have hb1 : BoxOk (c + 1) d1 := hb1
  simp only [sSeq, sAsg, sIf, sExpr, sRet, sRetN, sNext, sAug, sPar, parW, sFor, sBreak, sCont, wTB, wTV, wAndT, wOrT, wNotT, wAndE, wOrE, wNotE, wIf, w1, w2, wN, wC, wVar, wMove, wMut, wComp, wCall, wSl, oTmp, oLoc, aNil, aCons, aRev, res, ress, callA, takeA, nextR, backA, putB, gN, gTp, gsCons, gsNil, gIx, canSet, okR, okM, pNone, pInt, fAdd, fSub, fMul, fDiv, fMod, fPow, fShr, fShl, fAnd, fNeg, fCmp, fLt, fLe, fGt, fGe, fEq, fIs, fAbs, fIntOf, fAddI, fMulI, fLst, fTup, shs, fSeq, fZip, fRev, mAppend, mExtend, mPop0, mPopAt, D.isLst, locs, lend, lendI, lent, home, homeI, back1, wipeR, unwipe, homeD, wYes, List.getElem?_cons_zero, List.getElem?_cons_succ, List.set_cons_zero, List.set_cons_succ, List.length_cons, List.length_nil, List.headD_cons, List.headD_nil, List.tail_cons, List.tail_nil, List.reverse_cons, List.reverse_nil, List.nil_append, List.cons_append, Nat.zero_add, Bool.false_eq_true, if_true, if_false, ite_true, ite_false, List.contains_cons, List.contains_nil, initR, edOf, outsOf, slotR, List.map_cons, List.map_nil, List.replicate_succ, List.replicate_zero, List.append_nil, Nat.reduceAdd, Nat.reduceSub, Nat.reduceMul, FS_pm, FS_ar, Mo.own, sI, sD, nv, iv, pair_eta]
  have e2 : ((l : Int) + (q : Int)) = ((l + q : Nat) : Int) := by simp
  rw [e2]
  generalize hm : l + q = many at *
  refine ⟨trivial, trivial, hK _ ?_⟩
  clear hK K
  -- the way, the scale
  refine seqK fun K hK => ?_
  simp only [sSeq, sAsg, sIf, sExpr, sRet, sRetN, sNext, sAug, sPar, parW, sFor, sBreak, sCont, wTB, wTV, wAndT, wOrT, wNotT, wAndE, wOrE, wNotE, wIf, w1, w2, wN, wC, wVar, wMove, wMut, wComp, wCall, wSl, oTmp, oLoc, aNil, aCons, aRev, res, ress, callA, takeA, nextR, backA, putB, gN, gTp, gsCons, gsNil, gIx, canSet, okR, okM, pNone, pInt, fAdd, fSub, fMul, fDiv, fMod, fPow, fShr, fShl, fAnd, fNeg, fCmp, fLt, fLe, fGt, fGe, fEq, fIs, fAbs, fIntOf, fAddI, fMulI, fLst, fTup, shs, fSeq, fZip, fRev, mAppend, mExtend, mPop0, mPopAt, D.isLst, locs, lend, lendI, lent, home, homeI, back1, wipeR, unwipe, homeD, wYes, List.getElem?_cons_zero, List.getElem?_cons_succ, List.set_cons_zero, List.set_cons_succ, List.length_cons, List.length_nil, List.headD_cons, List.headD_nil, List.tail_cons, List.tail_nil, List.reverse_cons, List.reverse_nil, List.nil_append, List.cons_append, Nat.zero_add, Bool.false_eq_true, if_true, if_false, ite_true, ite_false, List.contains_cons, List.contains_nil, initR, edOf, outsOf, slotR, List.map_cons, List.map_nil, List.replicate_succ, List.replicate_zero, List.append_nil, Nat.reduceAdd, Nat.reduceSub, Nat.reduceMul, FS_pm, FS_ar, Mo.own, sI, sD, nv, iv, pair_eta]
  refine ⟨trivial, (d1, 6, c + 1), rfl, ⟨hb1, Nat.succ_pos _, mod_few (k := 6) (Nat.le_refl 6), ?_⟩, ?_, fun _ _ z => z.elim⟩
  · show c + 1 < Most; omega
  rintro _ _ ⟨way, d2, hw, rfl, rfl, hb2⟩
  have hb2 : BoxOk (c + 2) d2 := hb2
  simp only [sSeq, sAsg, sIf, sExpr, sRet, sRetN, sNext, sAug, sPar, parW, sFor, sBreak, sCont, wTB, wTV, wAndT, wOrT, wNotT, wAndE, wOrE, wNotE, wIf, w1, w2, wN, wC, wVar, wMove, wMut, wComp, wCall, wSl, oTmp, oLoc, aNil, aCons, aRev, res, ress, callA, takeA, nextR, backA, putB, gN, gTp, gsCons, gsNil, gIx, canSet, okR, okM, pNone, pInt, fAdd, fSub, fMul, fDiv, fMod, fPow, fShr, fShl, fAnd, fNeg, fCmp, fLt, fLe, fGt, fGe, fEq, fIs, fAbs, fIntOf, fAddI, fMulI, fLst, fTup, shs, fSeq, fZip, fRev, mAppend, mExtend, mPop0, mPopAt, D.isLst, locs, lend, lendI, lent, home, homeI, back1, wipeR, unwipe, homeD, wYes, List.getElem?_cons_zero, List.getElem?_cons_succ, List.set_cons_zero, List.set_cons_succ, List.length_cons, List.length_nil, List.headD_cons, List.headD_nil, List.tail_cons, List.tail_nil, List.reverse_cons, List.reverse_nil, List.nil_append, List.cons_append, Nat.zero_add, Bool.false_eq_true, if_true, if_false, ite_true, ite_false, List.contains_cons, List.contains_nil, initR, edOf, outsOf, slotR, List.map_cons, List.map_nil, List.replicate_succ, List.replicate_zero, List.append_nil, Nat.reduceAdd, Nat.reduceSub, Nat.reduceMul, FS_pm, FS_ar, Mo.own, sI, sD, nv, iv, pair_eta]
  refine ⟨trivial, by decide, trivial, (d2, (.sh, .lst (natsD [1, 1, 2, 3, 4, 6, 5])), natsD [1, 1, 2, 3, 4, 6, 5], c + 2), rfl, ⟨hb2, rfl, nofun, Nat.succ_pos _, mod_few (k := 7) (Nat.le_refl 7), ?_⟩, ?_, fun _ _ z => z.elim⟩
  · show c + 2 < Most; omega
  rintro _ _ ⟨x, d3, hx, rfl, rfl, hb3⟩
  have hb3 : BoxOk (c + 3) d3 := hb3
  obtain ⟨scale, hsc, rfl⟩ := mem_nats hx
  have hs0 : 0 < scale ∧ scale ≤ 6 := by
    have hsc : scale ∈ [1, 1, 2, 3, 4, 6, 5] := hsc
    simp at hsc
    omega
  simp only [sSeq, sAsg, sIf, sExpr, sRet, sRetN, sNext, sAug, sPar, parW, sFor, sBreak, sCont, wTB, wTV, wAndT, wOrT, wNotT, wAndE, wOrE, wNotE, wIf, w1, w2, wN, wC, wVar, wMove, wMut, wComp, wCall, wSl, oTmp, oLoc, aNil, aCons, aRev, res, ress, callA, takeA, nextR, backA, putB, gN, gTp, gsCons, gsNil, gIx, canSet, okR, okM, pNone, pInt, fAdd, fSub, fMul, fDiv, fMod, fPow, fShr, fShl, fAnd, fNeg, fCmp, fLt, fLe, fGt, fGe, fEq, fIs, fAbs, fIntOf, fAddI, fMulI, fLst, fTup, shs, fSeq, fZip, fRev, mAppend, mExtend, mPop0, mPopAt, D.isLst, locs, lend, lendI, lent, home, homeI, back1, wipeR, unwipe, homeD, wYes, List.getElem?_cons_zero, List.getElem?_cons_succ, List.set_cons_zero, List.set_cons_succ, List.length_cons, List.length_nil, List.headD_cons, List.headD_nil, List.tail_cons, List.tail_nil, List.reverse_cons, List.reverse_nil, List.nil_append, List.cons_append, Nat.zero_add, Bool.false_eq_true, if_true, if_false, ite_true, ite_false, List.contains_cons, List.contains_nil, initR, edOf, outsOf, slotR, List.map_cons, List.map_nil, List.replicate_succ, List.replicate_zero, List.append_nil, Nat.reduceAdd, Nat.reduceSub, Nat.reduceMul, FS_pm, FS_ar, Mo.own, sI, sD, nv, iv, pair_eta]
  refine ⟨trivial, by decide, trivial, trivial, trivial, hK _ ?_⟩
  clear hK K
  -- the sum
  refine seqK fun K hK => ?_
  have e3 : ((mo : Int) / (scale : Int)) = ((mo / scale : Nat) : Int) := by simp
  simp only [sSeq, sAsg, sIf, sExpr, sRet, sRetN, sNext, sAug, sPar, parW, sFor, sBreak, sCont, wTB, wTV, wAndT, wOrT, wNotT, wAndE, wOrE, wNotE, wIf, w1, w2, wN, wC, wVar, wMove, wMut, wComp, wCall, wSl, oTmp, oLoc, aNil, aCons, aRev, res, ress, callA, takeA, nextR, backA, putB, gN, gTp, gsCons, gsNil, gIx, canSet, okR, okM, pNone, pInt, fAdd, fSub, fMul, fDiv, fMod, fPow, fShr, fShl, fAnd, fNeg, fCmp, fLt, fLe, fGt, fGe, fEq, fIs, fAbs, fIntOf, fAddI, fMulI, fLst, fTup, shs, fSeq, fZip, fRev, mAppend, mExtend, mPop0, mPopAt, D.isLst, locs, lend, lendI, lent, home, homeI, back1, wipeR, unwipe, homeD, wYes, List.getElem?_cons_zero, List.getElem?_cons_succ, List.set_cons_zero, List.set_cons_succ, List.length_cons, List.length_nil, List.headD_cons, List.headD_nil, List.tail_cons, List.tail_nil, List.reverse_cons, List.reverse_nil, List.nil_append, List.cons_append, Nat.zero_add, Bool.false_eq_true, if_true, if_false, ite_true, ite_false, List.contains_cons, List.contains_nil, initR, edOf, outsOf, slotR, List.map_cons, List.map_nil, List.replicate_succ, List.replicate_zero, List.append_nil, Nat.reduceAdd, Nat.reduceSub, Nat.reduceMul, FS_pm, FS_ar, Mo.own, sI, sD, nv, iv, pair_eta, e3]
  refine ⟨divOk (by omega) (Int.lt_of_le_of_lt (by omega : (scale : Int) ≤ 6) (by decide +kernel)), ?_⟩
  refine fMaxN (i := 1) ?_
  simp only [sSeq, sAsg, sIf, sExpr, sRet, sRetN, sNext, sAug, sPar, parW, sFor, sBreak, sCont, wTB, wTV, wAndT, wOrT, wNotT, wAndE, wOrE, wNotE, wIf, w1, w2, wN, wC, wVar, wMove, wMut, wComp, wCall, wSl, oTmp, oLoc, aNil, aCons, aRev, res, ress, callA, takeA, nextR, backA, putB, gN, gTp, gsCons, gsNil, gIx, canSet, okR, okM, pNone, pInt, fAdd, fSub, fMul, fDiv, fMod, fPow, fShr, fShl, fAnd, fNeg, fCmp, fLt, fLe, fGt, fGe, fEq, fIs, fAbs, fIntOf, fAddI, fMulI, fLst, fTup, shs, fSeq, fZip, fRev, mAppend, mExtend, mPop0, mPopAt, D.isLst, locs, lend, lendI, lent, home, homeI, back1, wipeR, unwipe, homeD, wYes, List.getElem?_cons_zero, List.getElem?_cons_succ, List.set_cons_zero, List.set_cons_succ, List.length_cons, List.length_nil, List.headD_cons, List.headD_nil, List.tail_cons, List.tail_nil, List.reverse_cons, List.reverse_nil, List.nil_append, List.cons_append, Nat.zero_add, Bool.false_eq_true, if_true, if_false, ite_true, ite_false, List.contains_cons, List.contains_nil, initR, edOf, outsOf, slotR, List.map_cons, List.map_nil, List.replicate_succ, List.replicate_zero, List.append_nil, Nat.reduceAdd, Nat.reduceSub, Nat.reduceMul, FS_pm, FS_ar, Mo.own, sI, sD, nv, iv, pair_eta]
  refine ⟨trivial, (d3, max 1 (mo / scale), c + 3), rfl, ⟨hb3, by simp only; omega, ?_, ?_⟩, ?_, fun _ _ z => z.elim⟩
  · show max 1 (mo / scale) < 2 ^ 7000
    have : mo / scale ≤ mo := Nat.div_le_self _ _
    exact Nat.lt_of_le_of_lt (by omega : max 1 (mo / scale) ≤ mo + 1) (add_lt_pow (j := 1000) (k := 64) h4 (by decide) (by decide) (by decide))
  · show c + 3 < Most; omega
  rintro _ _ ⟨t, d4, ht, rfl, rfl, hb4⟩
  have hb4 : BoxOk (c + 4) d4 := hb4
  have ht : t < max 1 (mo / scale) := ht
  have e4 : ((1 : Int) + (t : Int)) = ((1 + t : Nat) : Int) := by simp
  simp only [sSeq, sAsg, sIf, sExpr, sRet, sRetN, sNext, sAug, sPar, parW, sFor, sBreak, sCont, wTB, wTV, wAndT, wOrT, wNotT, wAndE, wOrE, wNotE, wIf, w1, w2, wN, wC, wVar, wMove, wMut, wComp, wCall, wSl, oTmp, oLoc, aNil, aCons, aRev, res, ress, callA, takeA, nextR, backA, putB, gN, gTp, gsCons, gsNil, gIx, canSet, okR, okM, pNone, pInt, fAdd, fSub, fMul, fDiv, fMod, fPow, fShr, fShl, fAnd, fNeg, fCmp, fLt, fLe, fGt, fGe, fEq, fIs, fAbs, fIntOf, fAddI, fMulI, fLst, fTup, shs, fSeq, fZip, fRev, mAppend, mExtend, mPop0, mPopAt, D.isLst, locs, lend, lendI, lent, home, homeI, back1, wipeR, unwipe, homeD, wYes, List.getElem?_cons_zero, List.getElem?_cons_succ, List.set_cons_zero, List.set_cons_succ, List.length_cons, List.length_nil, List.headD_cons, List.headD_nil, List.tail_cons, List.tail_nil, List.reverse_cons, List.reverse_nil, List.nil_append, List.cons_append, Nat.zero_add, Bool.false_eq_true, if_true, if_false, ite_true, ite_false, List.contains_cons, List.contains_nil, initR, edOf, outsOf, slotR, List.map_cons, List.map_nil, List.replicate_succ, List.replicate_zero, List.append_nil, Nat.reduceAdd, Nat.reduceSub, Nat.reduceMul, FS_pm, FS_ar, Mo.own, sI, sD, nv, iv, pair_eta, e4]
  refine ⟨trivial, fMaxN ?_⟩
  generalize htot : max many (1 + t) = total at *
  refine ⟨trivial, hK _ ?_⟩
  clear hK K
  -- the amounts
  have hmo : mo / scale ≤ mo := Nat.div_le_self _ _
  have hmany : 0 < many ∧ many ≤ 100 := by omega
  have htl : total ≤ mo + 101 := by omega
  refine seqK fun K hK => ?_
  simp only [sSeq, sAsg, sIf, sExpr, sRet, sRetN, sNext, sAug, sPar, parW, sFor, sBreak, sCont, wTB, wTV, wAndT, wOrT, wNotT, wAndE, wOrE, wNotE, wIf, w1, w2, wN, wC, wVar, wMove, wMut, wComp, wCall, wSl, oTmp, oLoc, aNil, aCons, aRev, res, ress, callA, takeA, nextR, backA, putB, gN, gTp, gsCons, gsNil, gIx, canSet, okR, okM, pNone, pInt, fAdd, fSub, fMul, fDiv, fMod, fPow, fShr, fShl, fAnd, fNeg, fCmp, fLt, fLe, fGt, fGe, fEq, fIs, fAbs, fIntOf, fAddI, fMulI, fLst, fTup, shs, fSeq, fZip, fRev, mAppend, mExtend, mPop0, mPopAt, D.isLst, locs, lend, lendI, lent, home, homeI, back1, wipeR, unwipe, homeD, wYes, List.getElem?_cons_zero, List.getElem?_cons_succ, List.set_cons_zero, List.set_cons_succ, List.length_cons, List.length_nil, List.headD_cons, List.headD_nil, List.tail_cons, List.tail_nil, List.reverse_cons, List.reverse_nil, List.nil_append, List.cons_append, Nat.zero_add, Bool.false_eq_true, if_true, if_false, ite_true, ite_false, List.contains_cons, List.contains_nil, initR, edOf, outsOf, slotR, List.map_cons, List.map_nil, List.replicate_succ, List.replicate_zero, List.append_nil, Nat.reduceAdd, Nat.reduceSub, Nat.reduceMul, FS_pm, FS_ar, Mo.own, sI, sD, nv, iv, pair_eta]
  refine ⟨trivial, (d4, total, many, c + 4), rfl, ⟨hb4, hmany.1, by simp only; omega, ?_, ?_, ?_⟩, ?_, fun _ _ z => z.elim⟩
  · show total < 2 ^ 6000
    exact Nat.lt_of_le_of_lt htl (add_lt_pow (j := 1000) (k := 64) h4 (by decide) (by decide) (by decide))
  · show many < 2 ^ 20; omega
  · show c + 4 + many < Most; omega
  rintro _ _ ⟨xs, d5, rfl, rfl, hxl, hxs, hxp, hb5⟩
  have hb5 : BoxOk (c + 4 + many) d5 := hb5
  have hxl : xs.length = many := hxl
  have hxs : xs.sum = total := hxs
  have hxt : ∀ x ∈ xs, x ≤ total := fun x hx => by
    rw [← hxs]
    exact mem_le_sum hx
  simp only [sSeq, sAsg, sIf, sExpr, sRet, sRetN, sNext, sAug, sPar, parW, sFor, sBreak, sCont, wTB, wTV, wAndT, wOrT, wNotT, wAndE, wOrE, wNotE, wIf, w1, w2, wN, wC, wVar, wMove, wMut, wComp, wCall, wSl, oTmp, oLoc, aNil, aCons, aRev, res, ress, callA, takeA, nextR, backA, putB, gN, gTp, gsCons, gsNil, gIx, canSet, okR, okM, pNone, pInt, fAdd, fSub, fMul, fDiv, fMod, fPow, fShr, fShl, fAnd, fNeg, fCmp, fLt, fLe, fGt, fGe, fEq, fIs, fAbs, fIntOf, fAddI, fMulI, fLst, fTup, shs, fSeq, fZip, fRev, mAppend, mExtend, mPop0, mPopAt, D.isLst, locs, lend, lendI, lent, home, homeI, back1, wipeR, unwipe, homeD, wYes, List.getElem?_cons_zero, List.getElem?_cons_succ, List.set_cons_zero, List.set_cons_succ, List.length_cons, List.length_nil, List.headD_cons, List.headD_nil, List.tail_cons, List.tail_nil, List.reverse_cons, List.reverse_nil, List.nil_append, List.cons_append, Nat.zero_add, Bool.false_eq_true, if_true, if_false, ite_true, ite_false, List.contains_cons, List.contains_nil, initR, edOf, outsOf, slotR, List.map_cons, List.map_nil, List.replicate_succ, List.replicate_zero, List.append_nil, Nat.reduceAdd, Nat.reduceSub, Nat.reduceMul, FS_pm, FS_ar, Mo.own, sI, sD, nv, iv, pair_eta]
  refine ⟨trivial, trivial, hK _ ?_⟩
  clear hK K
  have fin : ∀ (ys : List Nat) (a : Slot), free a → (∀ y ∈ ys, 0 < y) → ys.length = many → (∀ y ∈ ys, y ≤ 2 * total + 1) → _ := fun ys a fa hy hyl hyb => line_end kl d5 l g mo many way scale total (c + 4 + many) ys a fa (edOf [(.bo, d), nv l, nv g, nv mo] Q E) hb5 hs0.1 hs0.2 hy (by omega) (by omega) (fun y hy => Nat.lt_of_le_of_lt (hyb y hy) ?_) (by omega) fun zs d' hz0 hz1 hz2 hz3 hz4 => hQ _ _ ⟨zs, d', rfl, rfl, hz1, by omega, by omega, fun z hz => ?_, hz4.mono (by omega)⟩
  rotate_left 1
  · have h6 : 2 * total + 1 ≤ 2 * mo + 203 := by omega
    refine Nat.lt_of_le_of_lt h6 (add_lt_pow (j := 1064) (k := 64) (mul_lt_pow (j := 64) (k := 1000) (by decide) h4 (by decide)) (by decide) (by decide) (by decide))
  · rcases hz3 z hz with rfl | ⟨y, hy, rfl⟩
    · omega
    · have h7 := hyb y hy
      have h8 : scale * y ≤ 6 * (2 * total + 1) := Nat.mul_le_mul hs0.2 h7
      omega
  refine seqK fun K hK => ?_
  have x0 : ∃ x ∈ xs, 0 < x := by
    match xs, hxl with
    | x :: xs, _ => exact ⟨x, List.mem_cons_self, hxp x List.mem_cons_self⟩
    | [], h => simp at h; omega
  have hd : ∃ y ys, xs = y :: ys := by
    match xs, hxl with
    | x :: xs, _ => exact ⟨x, xs, rfl⟩
    | [], h => simp at h; omega
  have base : K [.dat .bo d5, sI l, sI g, sI mo, sI many, sI way, sI scale, sI total, .dat .ow (.lst (natsD xs)), .un] := hK _ (fin xs .un trivial hxp hxl fun y hy => by have := hxt y hy; omega)
  simp only [sSeq, sAsg, sIf, sExpr, sRet, sRetN, sNext, sAug, sPar, parW, sFor, sBreak, sCont, wTB, wTV, wAndT, wOrT, wNotT, wAndE, wOrE, wNotE, wIf, w1, w2, wN, wC, wVar, wMove, wMut, wComp, wCall, wSl, oTmp, oLoc, aNil, aCons, aRev, res, ress, callA, takeA, nextR, backA, putB, gN, gTp, gsCons, gsNil, gIx, canSet, okR, okM, pNone, pInt, fAdd, fSub, fMul, fDiv, fMod, fPow, fShr, fShl, fAnd, fNeg, fCmp, fLt, fLe, fGt, fGe, fEq, fIs, fIx, fIxK, fLen, fLenK, fAbs, fIntOf, fAddI, fMulI, fLst, fTup, shs, fSeq, fZip, fRev, mAppend, mExtend, mPop0, mPopAt, D.isLst, locs, lend, lendI, lent, home, homeI, back1, wipeR, unwipe, homeD, wYes, List.getElem?_cons_zero, List.getElem?_cons_succ, List.set_cons_zero, List.set_cons_succ, List.length_cons, List.length_nil, List.headD_cons, List.headD_nil, List.tail_cons, List.tail_nil, List.reverse_cons, List.reverse_nil, List.nil_append, List.cons_append, Nat.zero_add, Bool.false_eq_true, if_true, if_false, ite_true, ite_false, List.contains_cons, List.contains_nil, initR, edOf, outsOf, slotR, List.map_cons, List.map_nil, List.replicate_succ, List.replicate_zero, List.append_nil, Nat.reduceAdd, Nat.reduceSub, Nat.reduceMul, FS_pm, FS_ar, Mo.own, sI, sD, nv, iv, Bool.false_xor]
  refine iteD (fun hw0 => ?_) (fun hw0 => ?_)
  · refine ⟨_, rfl, ?_⟩
    refine compMap (fun x => 2 * (x / 2) + 1) (by omega) (fun n hn acc N ha hN => ?_) ?_
    · refine ⟨trivial, divOk (by decide) (by decide +kernel), mulOkN (a := 2) (b := n / 2) (j := 64) (k := 1100) (by decide) ?_, trivial, ha, ?_⟩
      · have h6 : n / 2 ≤ mo + 101 := by have := hxt n hn; omega
        exact Nat.lt_of_le_of_lt h6 (add_lt_pow (j := 1000) (k := 64) h4 (by decide) (by decide) (by decide))
      · have e : ((2 : Int) * ((n : Int) / 2) + 1) = ((2 * (n / 2) + 1 : Nat) : Int) := by simp
        show N (acc ++ [.int ((2 : Int) * ((n : Int) / 2) + 1)]) _
        rw [e]
        exact hN
    · refine ⟨trivial, hK _ (fin _ .un trivial ?_ (by simp; omega) ?_)⟩
      · intro y hy
        obtain ⟨x, hx1, rfl⟩ := List.mem_map.mp hy
        omega
      · intro y hy
        obtain ⟨x, hx1, rfl⟩ := List.mem_map.mp hy
        have := hxt x hx1
        omega
  refine iteD (fun hw1 => ?_) (fun hw1 => ?_)
  · obtain ⟨y, ys, rfl⟩ := hd
    simp only [natsD_cons, atI_hd]
    have ek : ((many : Int)).toNat = many := by simp
    rw [ek, rep_flat]
    have y0 := hxp y List.mem_cons_self
    refine ⟨by omega, nofun, by omega, by omega, by omega, trivial, hK _ (fin _ .un trivial ?_ (by simp) ?_)⟩
    · intro z hz
      rw [List.eq_of_mem_replicate hz]; exact y0
    · intro z hz
      rw [List.eq_of_mem_replicate hz]
      have := hxt y List.mem_cons_self
      omega
  refine iteD (fun hw2 => ?_) (fun hw2 => ?_)
  · obtain ⟨y, ys, rfl⟩ := hd
    have y0 := hxp y List.mem_cons_self
    simp only [natsD_cons, atI_hd, cut_one]
    have hxl' : ys.length + 1 = many := hxl
    refine ⟨by omega, _, rfl, compMap (fun x => 2 * x) (by omega) (fun n hn acc N ha hN => ?_) ?_⟩
    · refine ⟨trivial, mulOkN (a := 2) (b := n) (j := 64) (k := 1100) (by decide) ?_, trivial, ha, ?_⟩
      · have h6 : n ≤ mo + 101 := by have := hxt n (List.mem_cons_of_mem _ hn); omega
        exact Nat.lt_of_le_of_lt h6 (add_lt_pow (j := 1000) (k := 64) h4 (by decide) (by decide) (by decide))
      · exact hN
    · refine ⟨nofun, nofun, ?_, trivial, hK _ (fin (y :: ys.map fun x => 2 * x) .un trivial ?_ (by simp; omega) ?_)⟩
      · rw [natsD_len, List.length_map]; omega
      · intro z hz
        rcases List.mem_cons.mp hz with rfl | hz
        · exact y0
        · obtain ⟨x, hx1, rfl⟩ := List.mem_map.mp hz
          have := hxp x (List.mem_cons_of_mem _ hx1)
          omega
      · intro z hz
        rcases List.mem_cons.mp hz with rfl | hz
        · have := hxt z List.mem_cons_self
          omega
        · obtain ⟨x, hx1, rfl⟩ := List.mem_map.mp hz
          have := hxt x (List.mem_cons_of_mem _ hx1)
          omega
  · exact base
end G
end
section
set_option Elab.async false
set_option linter.all false
set_option maxRecDepth 100000
set_option maxHeartbeats 1000000
set_option exponentiation.threshold 100000
namespace G
open PySem PySem.Spec L2
--MAC2
theorem callF {α : Type} {ar : Nat} {pm : List Bool} {args : α → List R} {pre : α → Prop} {post : α → R → List D → Prop} {exc : α → Xn → List D → Prop} {as : List Ar} {rs : List R} {ρ1 ρh : Rh} {Q : R → Rh → Prop} {E : XQ} (a : α) (h : rs = args a) (hl : rs.length = ar) (hp : pre a)
    (hq : ∀ r o, post a r o → okR r.1 ∧ Q r (backA as (putB rs o) ρ1 ρh)) (he : ∀ x o, exc a x o → E x (backA as (putB rs o) ρ1 ρh)) : @CallR (FS ar pm args pre post exc) as rs ρ1 ρh ⟨Q, E⟩ :=
  ⟨hl, a, h, hp, hq, he⟩
theorem call0 {α : Type} {ar : Nat} {pm : List Bool} {args : α → List R} {pre : α → Prop} {post : α → R → List D → Prop} {as : List Ar} {rs : List R} {ρ1 ρh : Rh} {Q : R → Rh → Prop} {E : XQ} (a : α) (h : rs = args a) (hl : rs.length = ar) (hp : pre a)
    (hq : ∀ r o, post a r o → okR r.1 ∧ Q r (backA as (putB rs o) ρ1 ρh)) : @CallR (FS ar pm args pre post noExc) as rs ρ1 ρh ⟨Q, E⟩ :=
  ⟨hl, a, h, hp, hq, fun _ _ z => z.elim⟩
theorem forP {f : FI} {rs : List R} {ls : List Nat} {g : WGt} {b : WS} {ρ1 : Rh} {D : Ed} {items : List G.D} (P : Nat → Rh → Prop) (hi : f rs items) (h0 : P 0 (lend ls ρ1))
    (hb : ∀ (j : Nat) (d : G.D) (ρ : Rh) (N : Rh → Prop), items[j]? = some d → P j ρ → (∀ ρ', P (j + 1) ρ' → N ρ') → g (.sh, d) ρ (fun ρ2 => b ρ2 { homeD ls ρ1 D with nx := N, ct := N, bk := (homeD ls ρ1 D).nx }) (homeD ls ρ1 D).ex)
    (h : ∀ ρ, P items.length ρ → D.nx (home ls ρ1 ρ)) : @ForP f rs ls ρ1 ⟨g, b, D⟩ := ⟨items, hi, forBy0 P h0 hb h⟩
theorem compP {f : FI} {rs : List R} {ls vs : List Nat} {ρ1 : Rh} {g : WGt} {t : WT} {e : WE} {Q : R → Rh → Prop} {items : List D} (F : D → Option D) (hi : f rs items) (hl : items.length ≤ sizeLine)
    (hb : ∀ (d : D) (acc : List D) (N : List D → Rh → Prop), d ∈ items → acc.length < sizeLine → N (acc ++ (F d).toList) (wipeR (lend ls ρ1) vs) → turnW g t e vs d (wipeR (lend ls ρ1) vs) acc N)
    (h : Q (.ow, .lst (items.filterMap F)) (home ls ρ1 (unwipe (lend ls ρ1) vs (wipeR (lend ls ρ1) vs)))) : @CompP f rs ls vs ρ1 ⟨g, t, e, Q⟩ := ⟨items, hi, compPure F hl hb h⟩
theorem fAll_eq {m : Mo} {xs : List D} {Q : R → Prop} {bs : List Bool} (h : xs = bs.map D.bl) : fAll [(m, .lst xs)] Q = Q (.sh, .bl (bs.all id)) := by
  subst h
  have e : boolsOf (bs.map D.bl) = some bs := by
    induction bs with
    | nil => rfl
    | cons b bs ih =>
      show (match boolsOf (bs.map D.bl) with | some ns => some (b :: ns) | none => none) = _
      rw [ih]
  show (match boolsOf (bs.map D.bl) with | some ns => Q (.sh, .bl (ns.all id)) | none => False) = _
  rw [e]
theorem fAny_eq {m : Mo} {xs : List D} {Q : R → Prop} {bs : List Bool} (h : xs = bs.map D.bl) : fAny [(m, .lst xs)] Q = Q (.sh, .bl (bs.any id)) := by
  subst h
  have e : boolsOf (bs.map D.bl) = some bs := by
    induction bs with
    | nil => rfl
    | cons b bs ih =>
      show (match boolsOf (bs.map D.bl) with | some ns => some (b :: ns) | none => none) = _
      rw [ih]
  show (match boolsOf (bs.map D.bl) with | some ns => Q (.sh, .bl (ns.any id)) | none => False) = _
  rw [e]
theorem fAll_yes {m : Mo} {xs : List D} {Q : R → Prop} (h : ∀ x ∈ xs, x = .bl true) (hq : Q (.sh, .bl true)) : fAll [(m, .lst xs)] Q := by
  have e : xs = (List.replicate xs.length true).map D.bl := by
    induction xs with
    | nil => rfl
    | cons x xs ih =>
      have := h x List.mem_cons_self
      subst this
      show _ = D.bl true :: (List.replicate xs.length true).map D.bl
      rw [← ih fun y hy => h y (List.mem_cons_of_mem _ hy)]
  rw [fAll_eq e]
  have : (List.replicate xs.length true).all id = true := by simp
  rw [this]; exact hq
theorem whileP {α : Type} {t : WT} {b : WS} {ρ : Rh} {D : Ed} (st : α → Rh) (P : α → Prop) (m : α → Nat) (a0 : α) (h0 : ρ = st a0) (hp : P a0)
    (h : ∀ a, P a → ∀ N : Rh → Prop, (∀ a', P a' → m a' < m a → N (st a')) → t (st a) (fun x ρ2 => @brP x ⟨b ρ2 { nx := N, rt := D.rt, bk := D.nx, ct := N, ex := D.ex }, D.nx ρ2⟩) D.ex) : @WhileP ρ ⟨t, b, D⟩ := by
  refine whileBy st P m a0 h0 hp fun a ha => ?_
  exact h a ha (fun ρ3 => ∃ k, k < m a ∧ ∃ a', ρ3 = st a' ∧ P a' ∧ k = m a') fun a' h1 h2 => ⟨m a', h2, a', rfl, h1, rfl⟩
theorem atI_0 {α : Type} (x : α) (xs : List α) : atI (x :: xs) 0 = some x := atI_hd x xs
theorem atI_1 {α : Type} (x y : α) (xs : List α) : atI (x :: y :: xs) 1 = some y := by
  have := atI_nat (x :: y :: xs) 1
  simpa using this
theorem atI_2 {α : Type} (x y z : α) (xs : List α) : atI (x :: y :: z :: xs) 2 = some z := by
  have := atI_nat (x :: y :: z :: xs) 2
  simpa using this
theorem atI_3 {α : Type} (x y z u : α) (xs : List α) : atI (x :: y :: z :: u :: xs) 3 = some u := by
  have := atI_nat (x :: y :: z :: u :: xs) 3
  simpa using this
theorem natsD_nil : natsD [] = [] := rfl
theorem mulOkI {a b : Int} (h : -(2 ^ 250) < a ∧ a < 2 ^ 250 ∧ -(2 ^ 250) < b ∧ b < 2 ^ 250) : MulOk a b := by
  have h0 : (2 : Nat) ^ 250 ≤ 2 ^ 20000 := Nat.pow_le_pow_right (by decide) (by decide)
  exact mulOk (Nat.lt_of_lt_of_le (by omega) h0) (Nat.lt_of_lt_of_le (by omega) h0)
theorem divOkI {b : Int} (h : 0 < b ∧ b < 2 ^ 250) : DivOk b := by
  refine ⟨h.1, ?_⟩
  have h1 : b.natAbs < 2 ^ 250 := by omega
  have := (Nat.log2_lt (by omega)).mpr h1
  omega
theorem few7 {n : Nat} (h : n < 2 ^ 250) : n < 2 ^ 7000 := Nat.lt_of_lt_of_le h (Nat.pow_le_pow_right (by decide) (by decide))
theorem take_scr {kl : Kl} {ns : List Int} {r : R} (h : Scr kl ns r) {mu : Bool} {i : Nat} {ρ : Rh} (hi : ρ[i]? = some (slotR r)) : takeA mu (.loc i) ρ = some (r, ρ) := by
  rcases h with rfl | ⟨_, rfl, _⟩
  · have hi : ρ[i]? = some (.dat .fr (.lst (ns.map D.int))) := hi
    simp only [takeA, hi]
  · have hi : ρ[i]? = some (.dat .sh (.obj _)) := hi
    simp only [takeA, hi]
theorem few {n : Nat} (h : n ≤ 1000) : n ≤ sizeLine := by have := sizeLine_big; omega
theorem few_eq {n : Nat} (h : n ≤ 1000) : (n ≤ sizeLine) = True := eq_true (few h)
theorem few_lt {n : Nat} (h : n < 1000) : (n < sizeLine) = True := eq_true (by have := sizeLine_big; omega)
theorem PowOk_iff (i j : Int) : PowOk i j = (0 ≤ j ∧ j ≤ 1000000 ∧ i.natAbs < 2 ^ 64) := rfl
theorem fEq_int {n : Bool} {m m' : Mo} {i j : Int} {Q : R → Prop} : fEq n (m, .int i) (m', .int j) Q = Q (.sh, .bl (n ^^ decide (i = j))) := rfl
theorem fEq_str {n : Bool} {m m' : Mo} {i j : Str} {Q : R → Prop} : fEq n (m, .str i) (m', .str j) Q = Q (.sh, .bl (n ^^ decide (i = j))) := rfl
theorem fEq_bl {n : Bool} {m m' : Mo} {i j : Bool} {Q : R → Prop} : fEq n (m, .bl i) (m', .bl j) Q = Q (.sh, .bl (n ^^ decide (i = j))) := rfl
theorem fMax2 {m m' : Mo} {i j : Int} {Q : R → Prop} : fMax [(m, .int i), (m', .int j)] Q = Q (.sh, .int (max i j)) := by
  have e : (if j > i then j else i) = max i j := by split <;> omega
  rw [← e]; rfl
theorem fMin2 {m m' : Mo} {i j : Int} {Q : R → Prop} : fMin [(m, .int i), (m', .int j)] Q = Q (.sh, .int (min i j)) := by
  have e : (if j < i then j else i) = min i j := by split <;> omega
  rw [← e]; rfl
theorem canSet_eq (ρ : Rh) (i : Nat) : canSet ρ i = (match ρ[i]? with
  | some s => free s
  | none => False) := by
  unfold canSet
  cases h : ρ[i]? with
  | none => rfl
  | some s => cases s with
    | un => rfl
    | dat m d => cases m <;> rfl
theorem free_ow (d : D) : free (.dat .ow d) := trivial
def b2i (b : Bool) : Int := if b = true then 1 else 0
theorem b2i_true : b2i true = 1 := rfl
theorem b2i_false : b2i false = 0 := rfl
theorem b2i_bd (b : Bool) : 0 ≤ b2i b ∧ b2i b ≤ 1 := by cases b <;> decide
theorem fIntOf_bl {m : Mo} {b : Bool} {Q : R → Prop} : fIntOf [(m, .bl b)] Q = Q (.sh, .int (b2i b)) := rfl
theorem fIntOf_int {m : Mo} {i : Int} {Q : R → Prop} : fIntOf [(m, .int i)] Q = Q (.sh, .int i) := rfl
theorem ne_shfr : (Mo.sh ≠ Mo.fr) = True := eq_true (by decide)
theorem ne_owfr : (Mo.ow ≠ Mo.fr) = True := eq_true (by decide)
theorem ne_bofr : (Mo.bo ≠ Mo.fr) = True := eq_true (by decide)
theorem ne_lnfr : (Mo.ln ≠ Mo.fr) = True := eq_true (by decide)
theorem free_un : free .un = True := rfl
theorem free_sh1 (d : D) : free (.dat .sh d) = True := rfl
theorem free_ow1 (d : D) : free (.dat .ow d) = True := rfl
theorem free_fr1 (d : D) : free (.dat .fr d) = True := rfl
theorem mul_bd {a b A B : Int} (h : 0 ≤ a ∧ a ≤ A ∧ 0 ≤ b ∧ b ≤ B) : 0 ≤ a * b ∧ a * b ≤ A * B :=
  ⟨Int.mul_nonneg h.1 h.2.2.1, Int.mul_le_mul h.2.1 h.2.2.2 h.2.2.1 (Int.le_trans h.1 h.2.1)⟩
theorem mul_bdp {a b A B : Int} (h : 0 < a ∧ a ≤ A ∧ 0 < b ∧ b ≤ B) : 0 < a * b ∧ a * b ≤ A * B :=
  ⟨Int.mul_pos h.1 h.2.2.1, Int.mul_le_mul h.2.1 h.2.2.2 (Int.le_of_lt h.2.2.1) (Int.le_trans (Int.le_of_lt h.1) h.2.1)⟩
theorem small200 {n k : Nat} (h : n < 2 ^ 200) (hk : 200 ≤ k := by decide) : n < 2 ^ k := Nat.lt_of_lt_of_le h (Nat.pow_le_pow_right (by decide) hk)
theorem small250 {n k : Nat} (h : n < 2 ^ 250) (hk : 250 ≤ k := by decide) : n < 2 ^ k := Nat.lt_of_lt_of_le h (Nat.pow_le_pow_right (by decide) hk)
section
variable {as : List Ar} {ρ1 ρh : Rh} {Q : R → Rh → Prop} {E : XQ} {d : D} {c : Nat}
theorem call_take {i : Int} (hb : BoxOk c d) (hi : 0 < i ∧ i < 2 ^ 250) (hc : c < 2 ^ 200)
    (hq : ∀ (x : Nat) d', (x : Int) < i → BoxOk (c + 1) d' → Q (.sh, .int x) (backA as (putB [(.bo, d), (.sh, .int i)] [d']) ρ1 ρh)) : @CallR sp_l_take as [(.bo, d), (.sh, .int i)] ρ1 ρh ⟨Q, E⟩ := by
  obtain ⟨n, rfl⟩ := Int.eq_ofNat_of_zero_le (Int.le_of_lt hi.1)
  refine call0 (d, n, c) rfl rfl ⟨hb, by simp only; omega, small250 (by simp only; omega), small200 hc⟩ ?_
  rintro _ _ ⟨x, d', hx, rfl, rfl, hb'⟩
  exact ⟨trivial, hq x d' (by simp only at hx; omega) hb'⟩
def dInts : List D → List Int
  | .int i :: r => i :: dInts r
  | _ => []
theorem call_of {ds : List D} (m : Mo) (P : D → Prop) (hm : (m = .sh ∨ m = .ln ∨ m = .fr) := by first | exact .inl rfl | exact .inr (.inl rfl)) (hb : BoxOk c d) (hl : 0 < ds.length ∧ ds.length < 2 ^ 250) (hc : c < 2 ^ 200) (hP : ∀ x ∈ ds, P x)
    (hq : ∀ x d', P x → BoxOk (c + 1) d' → Q (.sh, x) (backA as (putB [(.bo, d), (m, .lst ds)] [d']) ρ1 ρh)) : @CallR sp_l_of as [(.bo, d), (m, .lst ds)] ρ1 ρh ⟨Q, E⟩ := by
  refine call0 (d, (m, .lst ds), ds, c) rfl rfl ⟨hb, rfl, ?_, hl.1, small250 hl.2, small200 hc⟩ ?_
  · rcases hm with rfl | rfl | rfl <;> nofun
  rintro _ _ ⟨x, d', hx, rfl, rfl, hb'⟩
  exact ⟨trivial, hq x d' (hP x hx) hb'⟩
theorem dints_mem {P : Int → Prop} : ∀ {ds : List D}, ds = (dInts ds).map D.int → (∀ i ∈ dInts ds, P i) → ∀ x ∈ ds, ∃ i, x = .int i ∧ P i := fun {ds} h hP x hx => by
  rw [h] at hx
  obtain ⟨i, hi, rfl⟩ := List.mem_map.mp hx
  exact ⟨i, rfl, hP i hi⟩
theorem call_ofI {ds : List D} (P : Int → Prop) (hP : ∀ i ∈ dInts ds, P i) (hb : BoxOk c d) (hc : c < 2 ^ 200)
    (hq : ∀ i d', P i → BoxOk (c + 1) d' → Q (.sh, .int i) (backA as (putB [(.bo, d), (.sh, .lst ds)] [d']) ρ1 ρh)) (hd : ds = (dInts ds).map D.int := by rfl) (hl : 0 < ds.length ∧ ds.length < 2 ^ 250 := by first | decide | (simp only [List.length_cons, List.length_nil]; decide)) : @CallR sp_l_of as [(.bo, d), (.sh, .lst ds)] ρ1 ρh ⟨Q, E⟩ := by
  refine call_of .sh (fun x => ∃ i, x = .int i ∧ P i) (.inl rfl) hb hl hc (dints_mem hd hP) ?_
  rintro _ d' ⟨i, rfl, hi⟩ hb'
  exact hq i d' hi hb'
theorem call_split {t n : Int} (hb : BoxOk c d) (h : 0 < n ∧ n ≤ t ∧ t < 2 ^ 250 ∧ n < 2 ^ 20) (hc : c < 2 ^ 200)
    (hq : ∀ (xs : List Nat) d', (xs.length : Int) = n → (xs.sum : Int) = t → (∀ x ∈ xs, 0 < x) → BoxOk (c + n.toNat) d' → Q (.ow, .lst (natsD xs)) (backA as (putB [(.bo, d), (.sh, .int t), (.sh, .int n)] [d']) ρ1 ρh)) : @CallR sp_l_split as [(.bo, d), (.sh, .int t), (.sh, .int n)] ρ1 ρh ⟨Q, E⟩ := by
  obtain ⟨n, rfl⟩ := Int.eq_ofNat_of_zero_le (Int.le_of_lt h.1)
  obtain ⟨t, rfl⟩ := Int.eq_ofNat_of_zero_le (show 0 ≤ t by omega)
  refine call0 (d, t, n, c) rfl rfl ⟨hb, by simp only; omega, by simp only; omega, small250 (by simp only; omega), by simp only; omega, small250 (by simp only; omega)⟩ ?_
  rintro _ _ ⟨xs, d', rfl, rfl, h1, h2, h3, hb'⟩
  simp only at h1 h2 hb'
  exact ⟨trivial, hq xs d' (by omega) (by omega) h3 (by simpa using hb')⟩
theorem call_places {m : Mo} {am : D} {ys : List Nat} {z : Int} (ha : sqD am = some (natsD ys)) (hm : (m = .sh ∨ m = .ln) := by first | exact .inl rfl | exact .inr rfl) (hb : BoxOk c d) (h : 0 ≤ z ∧ ys.length + z < 2 ^ 20) (hc : c < 2 ^ 200)
    (hq : ∀ (xs : List Nat) d', xs.Perm (ys ++ List.replicate z.toNat 0) → BoxOk (c + ys.length + z.toNat) d' → Q (.sh, rowD xs) (backA as (putB [(.bo, d), (m, am), (.sh, .int z)] [d']) ρ1 ρh)) : @CallR sp_l_places as [(.bo, d), (m, am), (.sh, .int z)] ρ1 ρh ⟨Q, E⟩ := by
  obtain ⟨z, rfl⟩ := Int.eq_ofNat_of_zero_le h.1
  refine call0 (d, (m, am), ys, z, c) rfl rfl ⟨hb, ha, ?_, ?_, small250 (by simp only; omega)⟩ ?_
  · rcases hm with rfl | rfl <;> nofun
  · simp only; omega
  rintro _ _ ⟨xs, d', rfl, rfl, hp, hb'⟩
  exact ⟨trivial, hq xs d' (by simpa using hp) (by simpa using hb')⟩
theorem call_line {l g mo : Int} (hb : BoxOk c d) (h : 0 < l ∧ l ≤ g ∧ g ≤ 100 ∧ 0 ≤ mo ∧ mo < 2 ^ 240) (hc : c < 2 ^ 200)
    (hq : ∀ (xs : List Nat) d', (∃ x ∈ xs, 0 < x) → (l ≤ (hn xs : Int) ∧ (hn xs : Int) ≤ g) → (xs.length : Int) ≤ g + 2 → (∀ x ∈ xs, (x : Int) ≤ 16 * (mo + 200)) → BoxOk (c + 400) d' → Q (.sh, rowD xs) (backA as (putB [(.bo, d), (.sh, .int l), (.sh, .int g), (.sh, .int mo)] [d']) ρ1 ρh)) : @CallR sp_l_line as [(.bo, d), (.sh, .int l), (.sh, .int g), (.sh, .int mo)] ρ1 ρh ⟨Q, E⟩ := by
  obtain ⟨l, rfl⟩ := Int.eq_ofNat_of_zero_le (show 0 ≤ l by omega)
  obtain ⟨g, rfl⟩ := Int.eq_ofNat_of_zero_le (show 0 ≤ g by omega)
  obtain ⟨mo, rfl⟩ := Int.eq_ofNat_of_zero_le h.2.2.2.1
  refine call0 (d, l, g, mo, c) rfl rfl ⟨hb, by simp only; omega, by simp only; omega, by simp only; omega, small250 (by simp only; omega), small250 (by simp only; omega)⟩ ?_
  rintro _ _ ⟨xs, d', rfl, rfl, h1, h0, h2, h3, hb'⟩
  simp only at h0 h2 h3
  exact ⟨trivial, hq xs d' h1 (by omega) (by omega) (fun x hx => by have := h3 x hx; omega) hb'⟩
end
theorem law_box {kl : Kl} {ns : List Int} {r : R} (hs : Scr kl ns r) {j : Nat} (hj : j < 2 ^ 64) {t : Slot} (ft : free t) {rest : Rh} {ed : Ed} (h : ∀ d, BoxOk 0 d → ed.nx (slotR r :: sI j :: .dat .ow d :: rest)) :
    sAsg (wCall (sp_l_box kl) (aCons (oLoc 0) (aCons (oLoc 1) aNil))) (gN 2) (slotR r :: sI j :: t :: rest) ed := by
  have fin : ∀ (m : Mo) (d0 : D), r = (m, d0) → (m = .fr ∨ m = .sh) → sAsg (wCall (sp_l_box kl) (aCons (oLoc 0) (aCons (oLoc 1) aNil))) (gN 2) (slotR r :: sI j :: t :: rest) ed := by
    rintro m d0 rfl hm
    have q : @CallR (sp_l_box kl) [.loc 0, .loc 1] [(m, d0), nv j] (slotR (m, d0) :: sI j :: t :: rest) (slotR (m, d0) :: sI j :: t :: rest) ⟨fun r ρ1 => gN 2 r ρ1 ed.nx ed.ex, ed.ex⟩ := by
      refine call0 (ns, (m, d0), j) rfl rfl ⟨hs, hj⟩ ?_
      rintro _ _ ⟨d, hb, rfl, rfl⟩
      refine ⟨trivial, ?_⟩
      rcases hm with rfl | rfl
      · exact ⟨canSet_of (s := t) rfl ft, h d hb⟩
      · exact ⟨canSet_of (s := t) rfl ft, h d hb⟩
    rcases hm with rfl | rfl <;> exact q
  rcases hs with rfl | ⟨a, rfl, _⟩
  · exact fin _ _ rfl (.inl rfl)
  · exact fin _ _ rfl (.inr rfl)
end G
end
section
set_option Elab.async false
set_option linter.all false
set_option maxRecDepth 100000
set_option maxHeartbeats 1000000
set_option exponentiation.threshold 100000
namespace G
open PySem PySem.Spec L2
theorem wChain_eq {f f' : P2} {oa ob oc : WO} {ρ : Rh} {Q : R → Rh → Prop} {E : XQ} : wChain f f' oa ob oc ρ Q E = oa ρ (fun a ρ1 => ob ρ1 (fun b ρ2 => match res ρ2 a, res ρ2 b with
  | some x, some y => f x y fun z => (match z.2 with
    | .bl k => @brP k ⟨oc ρ2 (fun c ρ3 => match res ρ3 b, res ρ3 c with
      | some y', some w => f' y' w fun r => Q r ρ3
      | _, _ => False) E, Q (.sh, .bl false) ρ2⟩
    | _ => False)
  | _, _ => False) E) E := rfl
theorem d_fIsi : type_of% @fIsi.eq_def := @fIsi.eq_def
theorem d_fRevL : type_of% @fRevL.eq_def := @fRevL.eq_def
theorem d_fRgL : type_of% @fRgL.eq_def := @fRgL.eq_def
theorem d_fRgT : type_of% @fRgT.eq_def := @fRgT.eq_def
mutual
def plD : D → Bool
  | .non => true
  | .int _ => true
  | .str x => PyData.strOk x
  | .lst ds => plDs ds
  | .tup ds => plDs ds
  | _ => false
def plDs : List D → Bool
  | [] => true
  | d :: ds => plD d && plDs ds
end
mutual
def depD : D → Nat
  | .lst ds => depDs ds + 1
  | .tup ds => depDs ds + 1
  | _ => 0
def depDs : List D → Nat
  | [] => 0
  | d :: ds => max (depD d) (depDs ds)
end
mutual
def eqD : D → D → Bool
  | .non, .non => true
  | .int i, .int j => decide (i = j)
  | .str x, .str y => decide (x = y)
  | .lst xs, .lst ys => eqDs xs ys
  | .tup xs, .tup ys => eqDs xs ys
  | _, _ => false
def eqDs : List D → List D → Bool
  | [], [] => true
  | x :: xs, y :: ys => eqD x y && eqDs xs ys
  | _, _ => false
end
mutual
theorem toPy_pl : ∀ d : D, plD d = true → ∃ p, toPy d = some p ∧ p.canLay0 = true ∧ p.depth = depD d
  | .non, _ => ⟨.none, rfl, rfl, rfl⟩
  | .int i, _ => ⟨.int i, rfl, rfl, rfl⟩
  | .str x, h => ⟨.str x, rfl, by unfold plD at h; exact h, rfl⟩
  | .lst ds, h => by
    unfold plD at h
    obtain ⟨ps, h1, h2, h3⟩ := toPys_pl ds h
    refine ⟨.list ps, ?_, ?_, ?_⟩
    · unfold toPy; rw [h1]
    · unfold PyData.canLay0; exact h2
    · unfold PyData.depth depD; rw [h3]
  | .tup ds, h => by
    unfold plD at h
    obtain ⟨ps, h1, h2, h3⟩ := toPys_pl ds h
    refine ⟨.tuple ps, ?_, ?_, ?_⟩
    · unfold toPy; rw [h1]
    · unfold PyData.canLay0; exact h2
    · unfold PyData.depth depD; rw [h3]
  | .bl _, h => by unfold plD at h; cases h
  | .dct _, h => by unfold plD at h; cases h
  | .set _, h => by unfold plD at h; cases h
  | .obj _, h => by unfold plD at h; cases h
theorem toPys_pl : ∀ ds : List D, plDs ds = true → ∃ ps, toPys ds = some ps ∧ PyData.canLayAll0 ps = true ∧ PyData.depthAll ps = depDs ds
  | [], _ => ⟨[], by unfold toPys; rfl, by unfold PyData.canLayAll0; rfl, by unfold PyData.depthAll depDs; rfl⟩
  | d :: ds, h => by
    unfold plDs at h
    rw [Bool.and_eq_true] at h
    obtain ⟨p, h1, h2, h3⟩ := toPy_pl d h.1
    obtain ⟨ps, h4, h5, h6⟩ := toPys_pl ds h.2
    refine ⟨p :: ps, ?_, ?_, ?_⟩
    · unfold toPys; rw [h1, h4]
    · unfold PyData.canLayAll0; rw [h2, h5]; rfl
    · unfold PyData.depthAll depDs; rw [h3, h6]
end
mutual
theorem eqv_pl : ∀ (d e : D) (p q : PyData), toPy d = some p → toPy e = some q → plD d = true → plD e = true → PyData.eqv p q = eqD d e := by
  intro d e p q h1 h2 h3 h4
  cases d with
  | non =>
    cases h1
    cases e with
    | non => cases h2; rfl
    | int i => cases h2; rfl
    | str x => cases h2; rfl
    | lst ds => obtain ⟨q', h5, _⟩ := toPys_pl ds (by unfold plD at h4; exact h4); unfold toPy at h2; rw [h5] at h2; cases h2; rfl
    | tup ds => obtain ⟨q', h5, _⟩ := toPys_pl ds (by unfold plD at h4; exact h4); unfold toPy at h2; rw [h5] at h2; cases h2; rfl
    | _ => unfold plD at h4; cases h4
  | int i =>
    cases h1
    cases e with
    | non => cases h2; rfl
    | int j => cases h2; unfold PyData.eqv eqD; exact Bool.eq_iff_iff.mpr (by simp)
    | str x => cases h2; rfl
    | lst ds => obtain ⟨q', h5, _⟩ := toPys_pl ds (by unfold plD at h4; exact h4); unfold toPy at h2; rw [h5] at h2; cases h2; rfl
    | tup ds => obtain ⟨q', h5, _⟩ := toPys_pl ds (by unfold plD at h4; exact h4); unfold toPy at h2; rw [h5] at h2; cases h2; rfl
    | _ => unfold plD at h4; cases h4
  | str x =>
    cases h1
    cases e with
    | non => cases h2; rfl
    | int j => cases h2; rfl
    | str y => cases h2; unfold PyData.eqv eqD; exact Bool.eq_iff_iff.mpr (by simp)
    | lst ds => obtain ⟨q', h5, _⟩ := toPys_pl ds (by unfold plD at h4; exact h4); unfold toPy at h2; rw [h5] at h2; cases h2; rfl
    | tup ds => obtain ⟨q', h5, _⟩ := toPys_pl ds (by unfold plD at h4; exact h4); unfold toPy at h2; rw [h5] at h2; cases h2; rfl
    | _ => unfold plD at h4; cases h4
  | lst xs =>
    have h3' : plDs xs = true := by unfold plD at h3; exact h3
    obtain ⟨ps, h5, _⟩ := toPys_pl xs h3'
    unfold toPy at h1; rw [h5] at h1; cases h1
    cases e with
    | non => cases h2; rfl
    | int j => cases h2; rfl
    | str y => cases h2; rfl
    | lst ys =>
      have h4' : plDs ys = true := by unfold plD at h4; exact h4
      obtain ⟨qs, h6, _⟩ := toPys_pl ys h4'
      unfold toPy at h2; rw [h6] at h2; cases h2
      unfold PyData.eqv eqD
      exact eqvs_pl xs ys ps qs h5 h6 h3' h4'
    | tup ys =>
      obtain ⟨qs, h6, _⟩ := toPys_pl ys (by unfold plD at h4; exact h4)
      unfold toPy at h2; rw [h6] at h2; cases h2; rfl
    | _ => unfold plD at h4; cases h4
  | tup xs =>
    have h3' : plDs xs = true := by unfold plD at h3; exact h3
    obtain ⟨ps, h5, _⟩ := toPys_pl xs h3'
    unfold toPy at h1; rw [h5] at h1; cases h1
    cases e with
    | non => cases h2; rfl
    | int j => cases h2; rfl
    | str y => cases h2; rfl
    | lst ys =>
      obtain ⟨qs, h6, _⟩ := toPys_pl ys (by unfold plD at h4; exact h4)
      unfold toPy at h2; rw [h6] at h2; cases h2; rfl
    | tup ys =>
      have h4' : plDs ys = true := by unfold plD at h4; exact h4
      obtain ⟨qs, h6, _⟩ := toPys_pl ys h4'
      unfold toPy at h2; rw [h6] at h2; cases h2
      unfold PyData.eqv eqD
      exact eqvs_pl xs ys ps qs h5 h6 h3' h4'
    | _ => unfold plD at h4; cases h4
  | _ => unfold plD at h3; cases h3
theorem eqvs_pl : ∀ (ds es : List D) (ps qs : List PyData), toPys ds = some ps → toPys es = some qs → plDs ds = true → plDs es = true → PyData.eqvAll ps qs = eqDs ds es := by
  intro ds es ps qs h1 h2 h3 h4
  cases ds with
  | nil =>
    unfold toPys at h1; cases h1
    cases es with
    | nil => unfold toPys at h2; cases h2; unfold PyData.eqvAll eqDs; rfl
    | cons e es =>
      obtain ⟨q, h5, _⟩ := toPys_pl (e :: es) h4
      unfold toPys at h2
      split at h2
      · cases h2; unfold PyData.eqvAll eqDs; rfl
      · cases h2
  | cons d ds =>
    unfold plDs at h3
    rw [Bool.and_eq_true] at h3
    obtain ⟨p, h5, _⟩ := toPy_pl d h3.1
    obtain ⟨ps', h6, _⟩ := toPys_pl ds h3.2
    unfold toPys at h1
    rw [h5, h6] at h1
    cases h1
    cases es with
    | nil => unfold toPys at h2; cases h2; unfold PyData.eqvAll eqDs; rfl
    | cons e es =>
      unfold plDs at h4
      rw [Bool.and_eq_true] at h4
      obtain ⟨q, h7, _⟩ := toPy_pl e h4.1
      obtain ⟨qs', h8, _⟩ := toPys_pl es h4.2
      unfold toPys at h2
      rw [h7, h8] at h2
      cases h2
      unfold PyData.eqvAll eqDs
      rw [eqv_pl d e p q h5 h7 h3.1 h4.1, eqvs_pl ds es ps' qs' h6 h8 h3.2 h4.2]
end
theorem fEq_pl {neg : Bool} {m n : Mo} {d e : D} {Q : R → Prop} (hd : plD d = true) (he : plD e = true) (h1 : depD d ≤ 64) (h2 : depD e ≤ 64) : fEq neg (m, d) (n, e) Q = Q (.sh, .bl (neg ^^ eqD d e)) := by
  obtain ⟨p, p1, p2, p3⟩ := toPy_pl d hd
  obtain ⟨q, q1, q2, q3⟩ := toPy_pl e he
  have sh : ∀ {p : PyData} {k : Nat}, p.canLay0 = true → p.depth = k → k ≤ 64 → SeqAt.shaped p = true := fun h1 h2 h3 => by
    unfold SeqAt.shaped
    rw [h1, h2]
    simp [h3]
  have gen : (SeqAt.shaped p = true ∧ SeqAt.shaped q = true ∧ Q (.sh, .bl (neg ^^ PyData.eqv p q))) = Q (.sh, .bl (neg ^^ eqD d e)) := by
    rw [eqv_pl d e p q p1 q1 hd he]
    exact propext ⟨fun z => z.2.2, fun z => ⟨sh p2 p3 h1, sh q2 q3 h2, z⟩⟩
  unfold fEq
  cases d with
  | int i => cases e with
    | int j => unfold eqD; rfl
    | _ => simp only [p1, q1]; exact gen
  | str i => cases e with
    | str j => unfold eqD; rfl
    | _ => simp only [p1, q1]; exact gen
  | bl _ => unfold plD at hd; cases hd
  | _ => simp only [p1, q1]; exact gen
theorem plDs_nats : ∀ xs : List Nat, plDs (natsD xs) = true
  | [] => by unfold natsD plDs; rfl
  | x :: xs => by
    rw [natsD_cons]
    unfold plDs plD
    rw [plDs_nats xs]; rfl
theorem depDs_nats : ∀ xs : List Nat, depDs (natsD xs) = 0
  | [] => by unfold natsD depDs; rfl
  | x :: xs => by
    rw [natsD_cons]
    unfold depDs depD
    rw [depDs_nats xs]; rfl
theorem eqDs_nats : ∀ xs ys : List Nat, eqDs (natsD xs) (natsD ys) = decide (xs = ys)
  | [], [] => by unfold natsD eqDs; simp
  | x :: xs, y :: ys => by
    rw [natsD_cons, natsD_cons]
    unfold eqDs eqD
    rw [eqDs_nats xs ys]
    by_cases h : x = y <;> by_cases h2 : xs = ys <;> simp [h, h2, Int.ofNat_inj]
  | [], y :: ys => by rw [natsD_cons]; unfold natsD; simp [eqDs]
  | x :: xs, [] => by rw [natsD_cons]; unfold natsD; simp [eqDs]
theorem fEq_row {neg : Bool} {m n : Mo} {xs ys : List Nat} {Q : R → Prop} : fEq neg (m, .tup (natsD xs)) (n, .tup (natsD ys)) Q = Q (.sh, .bl (neg ^^ decide (xs = ys))) := by
  rw [fEq_pl (by unfold plD; exact plDs_nats xs) (by unfold plD; exact plDs_nats ys) (by unfold depD; rw [depDs_nats]; decide) (by unfold depD; rw [depDs_nats]; decide)]
  unfold eqD
  rw [eqDs_nats]
theorem fEq_nats {neg : Bool} {m n : Mo} {xs ys : List Nat} {Q : R → Prop} : fEq neg (m, .lst (natsD xs)) (n, .lst (natsD ys)) Q = Q (.sh, .bl (neg ^^ decide (xs = ys))) := by
  rw [fEq_pl (by unfold plD; exact plDs_nats xs) (by unfold plD; exact plDs_nats ys) (by unfold depD; rw [depDs_nats]; decide) (by unfold depD; rw [depDs_nats]; decide)]
  unfold eqD
  rw [eqDs_nats]
def strsD (ws : List Str) : List D := ws.map D.str
theorem plDs_strs : ∀ ws : List Str, (∀ x ∈ ws, PyData.strOk x = true) → plDs (strsD ws) = true
  | [], _ => by unfold strsD plDs; rfl
  | w :: ws, h => by
    show plDs (.str w :: strsD ws) = true
    unfold plDs plD
    rw [plDs_strs ws fun x hx => h x (List.mem_cons_of_mem _ hx), h w List.mem_cons_self]; rfl
theorem depDs_strs : ∀ ws : List Str, depDs (strsD ws) = 0
  | [] => by unfold strsD depDs; rfl
  | w :: ws => by
    show depDs (.str w :: strsD ws) = 0
    unfold depDs depD
    rw [depDs_strs ws]; rfl
theorem eqDs_strs : ∀ xs ys : List Str, eqDs (strsD xs) (strsD ys) = decide (xs = ys)
  | [], [] => by unfold strsD eqDs; simp
  | x :: xs, y :: ys => by
    show eqDs (.str x :: strsD xs) (.str y :: strsD ys) = _
    unfold eqDs eqD
    rw [eqDs_strs xs ys]
    by_cases h : x = y <;> by_cases h2 : xs = ys <;> simp [h, h2]
  | [], y :: ys => by show eqDs [] (.str y :: strsD ys) = _; simp [eqDs]
  | x :: xs, [] => by show eqDs (.str x :: strsD xs) [] = _; simp [eqDs]
theorem fEq_strs {neg : Bool} {m n : Mo} {xs ys : List Str} {Q : R → Prop} (hx : ∀ x ∈ xs, PyData.strOk x = true) (hy : ∀ x ∈ ys, PyData.strOk x = true) : fEq neg (m, .lst (strsD xs)) (n, .lst (strsD ys)) Q = Q (.sh, .bl (neg ^^ decide (xs = ys))) := by
  rw [fEq_pl (by unfold plD; exact plDs_strs xs hx) (by unfold plD; exact plDs_strs ys hy) (by unfold depD; rw [depDs_strs]; decide) (by unfold depD; rw [depDs_strs]; decide)]
  unfold eqD
  rw [eqDs_strs]
theorem fEq_tstrs {neg : Bool} {m n : Mo} {xs ys : List Str} {Q : R → Prop} (hx : ∀ x ∈ xs, PyData.strOk x = true) (hy : ∀ x ∈ ys, PyData.strOk x = true) : fEq neg (m, .tup (strsD xs)) (n, .tup (strsD ys)) Q = Q (.sh, .bl (neg ^^ decide (xs = ys))) := by
  rw [fEq_pl (by unfold plD; exact plDs_strs xs hx) (by unfold plD; exact plDs_strs ys hy) (by unfold depD; rw [depDs_strs]; decide) (by unfold depD; rw [depDs_strs]; decide)]
  unfold eqD
  rw [eqDs_strs]
theorem intsOf_nats : ∀ xs : List Nat, intsOf (natsD xs) = some (xs.map fun n : Nat => (n : Int)) := fun xs => by
  have := intsOf_map (xs.map fun n : Nat => (n : Int))
  rw [List.map_map] at this
  exact this
theorem sum_cast : ∀ xs : List Nat, (xs.map fun n : Nat => (n : Int)).sum = ((xs.sum : Nat) : Int)
  | [] => rfl
  | x :: xs => by
    rw [List.map_cons, List.sum_cons, List.sum_cons, sum_cast xs]; omega
theorem fSum_row {m : Mo} {xs : List Nat} {Q : R → Prop} : fSum [(m, .tup (natsD xs))] Q = Q (.sh, .int ((xs.sum : Nat) : Int)) := by
  show (match intsOf (natsD xs) with | some ns => Q (.sh, .int ns.sum) | none => False) = _
  rw [intsOf_nats]
  show Q (.sh, .int (xs.map fun n : Nat => (n : Int)).sum) = _
  rw [sum_cast]
theorem fSum_nats {m : Mo} {xs : List Nat} {Q : R → Prop} : fSum [(m, .lst (natsD xs))] Q = Q (.sh, .int ((xs.sum : Nat) : Int)) := by
  show (match intsOf (natsD xs) with | some ns => Q (.sh, .int ns.sum) | none => False) = _
  rw [intsOf_nats]
  show Q (.sh, .int (xs.map fun n : Nat => (n : Int)).sum) = _
  rw [sum_cast]
theorem ixN_neg1 {n : Nat} (h : 0 < n) : ixN n (-1) = some (n - 1) := by
  unfold ixN
  simp
  omega
theorem atI_get {α : Type} {xs : List α} {i : Int} {n : Nat} {x : α} (h : ixN xs.length i = some n) (hx : xs[n]? = some x) : atI xs i = some x := by
  unfold atI
  rw [h]
  exact hx
theorem nats_get {xs : List Nat} {k a : Nat} (h : xs[k]? = some a) : (natsD xs)[k]? = some (.int (a : Int)) := by
  unfold natsD; rw [List.getElem?_map, h]; rfl
theorem atI_nats {xs : List Nat} {k a : Nat} (h : xs[k]? = some a) : atI (natsD xs) (k : Int) = some (.int (a : Int)) := by
  rw [atI_nat]; exact nats_get h
section
variable {ls vs : List Nat} {ρ1 : Rh} {g : WGt} {t : WT} {e : WE} {Q : R → Rh → Prop} {m : Mo} {xs : List Nat}
theorem compN (f : Nat → Nat) (hl : xs.length ≤ sizeLine)
    (hb : ∀ n ∈ xs, ∀ (acc : List D) (N : List D → Rh → Prop), acc.length < sizeLine → N (acc ++ [.int (f n)]) (wipeR (lend ls ρ1) vs) → turnW g t e vs (.int n) (wipeR (lend ls ρ1) vs) acc N)
    (h : Q (.ow, .lst (natsD (xs.map f))) (home ls ρ1 (unwipe (lend ls ρ1) vs (wipeR (lend ls ρ1) vs)))) : @CompP fSeq [(m, .lst (natsD xs))] ls vs ρ1 ⟨g, t, e, Q⟩ := ⟨_, rfl, compMap f hl hb h⟩
theorem compNT (f : Nat → Nat) (hl : xs.length ≤ sizeLine)
    (hb : ∀ n ∈ xs, ∀ (acc : List D) (N : List D → Rh → Prop), acc.length < sizeLine → N (acc ++ [.int (f n)]) (wipeR (lend ls ρ1) vs) → turnW g t e vs (.int n) (wipeR (lend ls ρ1) vs) acc N)
    (h : Q (.ow, .lst (natsD (xs.map f))) (home ls ρ1 (unwipe (lend ls ρ1) vs (wipeR (lend ls ρ1) vs)))) : @CompP fSeq [(m, .tup (natsD xs))] ls vs ρ1 ⟨g, t, e, Q⟩ := ⟨_, rfl, compMap f hl hb h⟩
theorem compFT (p : Nat → Bool) (f : Nat → Nat) (hl : xs.length ≤ sizeLine)
    (hb : ∀ n ∈ xs, ∀ (acc : List D) (N : List D → Rh → Prop), acc.length < sizeLine → (p n = true → N (acc ++ [.int (f n)]) (wipeR (lend ls ρ1) vs)) → (p n = false → N acc (wipeR (lend ls ρ1) vs)) → turnW g t e vs (.int n) (wipeR (lend ls ρ1) vs) acc N)
    (h : Q (.ow, .lst (natsD ((xs.filter p).map f))) (home ls ρ1 (unwipe (lend ls ρ1) vs (wipeR (lend ls ρ1) vs)))) : @CompP fSeq [(m, .tup (natsD xs))] ls vs ρ1 ⟨g, t, e, Q⟩ := ⟨_, rfl, compNats p f hl hb h⟩
theorem compF (p : Nat → Bool) (f : Nat → Nat) (hl : xs.length ≤ sizeLine)
    (hb : ∀ n ∈ xs, ∀ (acc : List D) (N : List D → Rh → Prop), acc.length < sizeLine → (p n = true → N (acc ++ [.int (f n)]) (wipeR (lend ls ρ1) vs)) → (p n = false → N acc (wipeR (lend ls ρ1) vs)) → turnW g t e vs (.int n) (wipeR (lend ls ρ1) vs) acc N)
    (h : Q (.ow, .lst (natsD ((xs.filter p).map f))) (home ls ρ1 (unwipe (lend ls ρ1) vs (wipeR (lend ls ρ1) vs)))) : @CompP fSeq [(m, .lst (natsD xs))] ls vs ρ1 ⟨g, t, e, Q⟩ := ⟨_, rfl, compNats p f hl hb h⟩
end
theorem compQ {f : FI} {rs : List R} {ls vs : List Nat} {ρ1 : Rh} {g : WGt} {t : WT} {e : WE} {Q : R → Rh → Prop} {items : List D} (P : Nat → List D → Rh → Prop) (hi : f rs items) (h0 : P 0 [] (wipeR (lend ls ρ1) vs))
    (hb : ∀ (j : Nat) (d : D) (acc : List D) (ρ : Rh) (N : List D → Rh → Prop), items[j]? = some d → P j acc ρ → (∀ a ρ', P (j + 1) a ρ' → N a ρ') → turnW g t e vs d ρ acc N)
    (h : ∀ acc ρ, P items.length acc ρ → Q (.ow, .lst acc) (home ls ρ1 (unwipe (lend ls ρ1) vs ρ))) : @CompP f rs ls vs ρ1 ⟨g, t, e, Q⟩ := ⟨items, hi, compBy0 P h0 hb h⟩
theorem fEq_nats0 {neg : Bool} {m n : Mo} {xs : List Nat} {Q : R → Prop} : fEq neg (m, .lst (natsD xs)) (n, .lst []) Q = Q (.sh, .bl (neg ^^ decide (xs = []))) := fEq_nats (ys := [])
theorem mPopAt_nats {xs : List Nat} {k a : Nat} {m : Mo} {Q : R → D → Prop} (hk : xs[k]? = some a) (h63 : k < 2 ^ 62) : mPopAt (.lst (natsD xs)) [(m, .int (k : Int))] Q = Q (.sh, .int (a : Int)) (.lst (natsD (xs.eraseIdx k))) := by
  have hl : k < xs.length := (List.getElem?_eq_some_iff.mp hk).1
  have e1 : seqIndex? (k : Int) (natsD xs).length = some k := by rw [natsD_len]; exact seqIx_nat hl
  have e2 := nats_get hk
  show (-(2 ^ 63) ≤ (k : Int) ∧ (k : Int) < 2 ^ 63 ∧ (match seqIndex? (k : Int) (natsD xs).length with
    | some k => match (natsD xs)[k]? with
      | some y => Q (.sh, y) (.lst ((natsD xs).eraseIdx k))
      | none => False
    | none => False)) = _
  simp only [e1, e2]
  rw [natsD_erase]
  exact propext ⟨fun z => z.2.2, fun z => ⟨by omega, by omega, z⟩⟩
theorem rng_nats (n : Nat) : rng 0 n = natsD (List.range n) := by
  unfold rng natsD
  refine List.map_congr_left fun k _ => ?_
  simp
end G
end
section
set_option Elab.async false
set_option linter.all false
set_option maxRecDepth 100000
set_option maxHeartbeats 1000000
set_option exponentiation.threshold 100000
namespace G
open PySem PySem.Spec L2
local macro_rules | `(tactic| walk_at "wk") => `(tactic| simp only [↓sSeq_eq, ↓d_sAsg, ↓d_sExpr, ↓d_sRet, ↓d_sRetN, ↓d_sNext, ↓d_sAug, ↓d_sPar, ↓d_sBreak, ↓d_sCont, ↓d_wTB, ↓d_wTV, ↓d_wNotT, ↓d_wNotE, ↓d_w1, ↓d_w2, ↓d_wN, ↓d_wC, ↓d_wVar, ↓d_wMove, ↓d_wMut, ↓d_wSl, ↓d_oTmp, ↓d_oLoc, ↓d_aNil, ↓d_aCons, ↓d_aRev, res, ress, callA, takeA, nextR, backA, putB, ↓d_gN, ↓d_gTp, ↓d_gsCons, ↓d_gsNil, ↓d_gIx, canSet_eq, free_un, free_sh1, free_ow1, free_fr1, okR, okM, ↓d_pNone, ↓d_pInt, ↓d_fAdd, ↓d_fSub, ↓d_fMul, ↓d_fDiv, ↓d_fMod, ↓d_fPow, ↓d_fShr, ↓d_fShl, ↓d_fAnd, ↓d_fNeg, ↓d_fCmp, ↓d_fLt, ↓d_fLe, ↓d_fGt, ↓d_fGe, ↓d_fIs, ↓d_fIx, ↓d_fIxK, ↓d_fLen, ↓d_fLenK, ↓d_fAbs, ↓fIntOf_bl, ↓fIntOf_int, b2i_true, b2i_false, ↓d_fAddI, ↓d_fMulI, ↓d_fLst, ↓d_fTup, shs, fSeq, fZip, fRev, ↓d_mAppend, ↓d_mExtend, ↓d_mPop0, ↓d_mPopAt, D.isLst, locs, lend, lendI, lent, home, homeI, back1, wipeR, unwipe, ↓d_homeD, wYes, noX, Option.toList, List.getElem?_cons_zero, List.getElem?_cons_succ, List.set_cons_zero, List.set_cons_succ, List.length_cons, List.length_nil, List.headD_cons, List.headD_nil, List.tail_cons, List.tail_nil, List.reverse_cons, List.reverse_nil, List.nil_append, List.cons_append, Nat.zero_add, Bool.false_eq_true, if_true, if_false, ite_true, ite_false, List.contains_cons, List.contains_nil, initR, edOf, outsOf, slotR, List.map_cons, List.map_nil, List.replicate_succ, List.replicate_zero, List.append_nil, Nat.reduceAdd, Nat.reduceSub, Nat.reduceMul, FS_pm, FS_ar, Mo.own, sI, sD, nv, iv, ↓d_fListOf, ↓d_fTupOf, ↓d_parW1, ↓d_parW2, ↓d_sRaise, ↓sIf_eq, ↓wIf_eq, ↓wAndT_eq, ↓wOrT_eq, ↓wAndE_eq, ↓wOrE_eq, ↓sFor_eq, ↓wComp_eq, ↓wCall_eq, ↓sWhile_eq, ↓turnW_eq, brP_true, brP_false, true_and, and_true, pair_eta, atI_0, atI_1, atI_2, atI_3, natsD_cons, natsD_nil, decide_true, decide_false, Bool.not_true, Bool.not_false, Bool.true_xor, Bool.false_xor, Bool.xor_self, few_eq, few_lt, PowOk_iff, Nat.reduceLeDiff, Int.reduceLE, Int.reduceLT, Int.reduceAbs, Int.reduceMul, Int.reduceAdd, Int.reduceSub, Int.reduceNeg, Int.reduceDiv, Int.reduceMod, ↓fEq_int, ↓fEq_str, ↓fEq_bl, ↓fMax2, ↓fMin2, rowD, natsD_len, Nat.reducePow, Nat.reduceLT, Int.reduceToNat, Int.reducePow, and_self, Int.zero_add, List.getD_cons_zero, List.getD_cons_succ, ne_shfr, ne_owfr, ne_bofr, ne_lnfr, Int.toNat_natCast, Nat.one_mul, Nat.reduceBEq, reduceIte, ↓reduceIte, ↓wChain_eq, ↓d_fIsi, ↓d_fRevL, ↓d_fRgL, ↓d_fRgT, tyD, isiB, String.reduceBEq, Bool.or_true, Bool.true_or, Bool.or_false, Bool.false_or, Bool.and_true, Bool.true_and, Bool.and_false, Bool.false_and, ↓fEq_row, ↓fEq_nats, ↓fEq_nats0, rng_nats, ↓fSum_row, ↓fSum_nats])
local macro_rules | `(tactic| walk_at "wp") => `(tactic| simp only [↓d_sSeq, ↓d_sAsg, ↓d_sExpr, ↓d_sRet, ↓d_sRetN, ↓d_sNext, ↓d_sAug, ↓d_sPar, ↓d_sBreak, ↓d_sCont, ↓d_wTB, ↓d_wTV, ↓d_wNotT, ↓d_wNotE, ↓d_w1, ↓d_w2, ↓d_wN, ↓d_wC, ↓d_wVar, ↓d_wMove, ↓d_wMut, ↓d_wSl, ↓d_oTmp, ↓d_oLoc, ↓d_aNil, ↓d_aCons, ↓d_aRev, res, ress, callA, takeA, nextR, backA, putB, ↓d_gN, ↓d_gTp, ↓d_gsCons, ↓d_gsNil, ↓d_gIx, canSet_eq, free_un, free_sh1, free_ow1, free_fr1, okR, okM, ↓d_pNone, ↓d_pInt, ↓d_fAdd, ↓d_fSub, ↓d_fMul, ↓d_fDiv, ↓d_fMod, ↓d_fPow, ↓d_fShr, ↓d_fShl, ↓d_fAnd, ↓d_fNeg, ↓d_fCmp, ↓d_fLt, ↓d_fLe, ↓d_fGt, ↓d_fGe, ↓d_fIs, ↓d_fIx, ↓d_fIxK, ↓d_fLen, ↓d_fLenK, ↓d_fAbs, ↓fIntOf_bl, ↓fIntOf_int, b2i_true, b2i_false, ↓d_fAddI, ↓d_fMulI, ↓d_fLst, ↓d_fTup, shs, fSeq, fZip, fRev, ↓d_mAppend, ↓d_mExtend, ↓d_mPop0, ↓d_mPopAt, D.isLst, locs, lend, lendI, lent, home, homeI, back1, wipeR, unwipe, ↓d_homeD, wYes, noX, Option.toList, List.getElem?_cons_zero, List.getElem?_cons_succ, List.set_cons_zero, List.set_cons_succ, List.length_cons, List.length_nil, List.headD_cons, List.headD_nil, List.tail_cons, List.tail_nil, List.reverse_cons, List.reverse_nil, List.nil_append, List.cons_append, Nat.zero_add, Bool.false_eq_true, if_true, if_false, ite_true, ite_false, List.contains_cons, List.contains_nil, initR, edOf, outsOf, slotR, List.map_cons, List.map_nil, List.replicate_succ, List.replicate_zero, List.append_nil, Nat.reduceAdd, Nat.reduceSub, Nat.reduceMul, FS_pm, FS_ar, Mo.own, sI, sD, nv, iv, ↓d_fListOf, ↓d_fTupOf, ↓d_parW1, ↓d_parW2, ↓d_sRaise, ↓sIf_eq, ↓wIf_eq, ↓wAndT_eq, ↓wOrT_eq, ↓wAndE_eq, ↓wOrE_eq, ↓sFor_eq, ↓wComp_eq, ↓wCall_eq, ↓sWhile_eq, ↓turnW_eq, brP_true, brP_false, true_and, and_true, pair_eta, atI_0, atI_1, atI_2, atI_3, natsD_cons, natsD_nil, decide_true, decide_false, Bool.not_true, Bool.not_false, Bool.true_xor, Bool.false_xor, Bool.xor_self, few_eq, few_lt, PowOk_iff, Nat.reduceLeDiff, Int.reduceLE, Int.reduceLT, Int.reduceAbs, Int.reduceMul, Int.reduceAdd, Int.reduceSub, Int.reduceNeg, Int.reduceDiv, Int.reduceMod, ↓fEq_int, ↓fEq_str, ↓fEq_bl, ↓fMax2, ↓fMin2, rowD, natsD_len, Nat.reducePow, Nat.reduceLT, Int.reduceToNat, Int.reducePow, and_self, Int.zero_add, List.getD_cons_zero, List.getD_cons_succ, ne_shfr, ne_owfr, ne_bofr, ne_lnfr, Int.toNat_natCast, Nat.one_mul, Nat.reduceBEq, reduceIte, ↓reduceIte, ↓wChain_eq, ↓d_fIsi, ↓d_fRevL, ↓d_fRgL, ↓d_fRgT, tyD, isiB, String.reduceBEq, Bool.or_true, Bool.true_or, Bool.or_false, Bool.false_or, Bool.and_true, Bool.true_and, Bool.and_false, Bool.false_and, ↓fEq_row, ↓fEq_nats, ↓fEq_nats0, rng_nats, ↓fSum_row, ↓fSum_nats])
def holdF : Nat → List Nat → List Nat
  | _, [] => []
  | k, x :: xs => if 0 < x then k :: holdF (k + 1) xs else holdF (k + 1) xs
def hold (xs : List Nat) : List Nat := holdF 0 xs
theorem holdF_len : ∀ (xs : List Nat) (k : Nat), (holdF k xs).length = hn xs
  | [], _ => rfl
  | x :: xs, k => by
    have ih := holdF_len xs (k + 1)
    unfold hn at ih ⊢
    unfold holdF
    by_cases h : 0 < x
    · simp [h, ih]
    · have : x = 0 := by omega
      subst this
      simp [ih]
theorem hold_len (xs : List Nat) : (hold xs).length = hn xs := holdF_len xs 0
def enF : D → Option D
  | .tup [.int k, .int a] => if 0 < a then some (.int k) else none
  | _ => none
theorem enumD_nats : ∀ (xs : List Nat) (k : Nat) (d : D), d ∈ enumD k (natsD xs) → ∃ i a : Nat, d = .tup [.int i, .int a]
  | [], _, _, h => by cases h
  | x :: xs, k, d, h => by
    rw [natsD_cons] at h
    unfold enumD at h
    rcases List.mem_cons.mp h with rfl | h
    · exact ⟨k, x, rfl⟩
    · exact enumD_nats xs (k + 1) d h
theorem enF_all : ∀ (xs : List Nat) (k : Nat), (enumD k (natsD xs)).filterMap enF = natsD (holdF k xs)
  | [], _ => rfl
  | x :: xs, k => by
    rw [natsD_cons]
    unfold enumD holdF
    have e : enF (.tup [.int (k : Int), .int (x : Int)]) = if 0 < x then some (.int (k : Int)) else none := by
      unfold enF
      by_cases h : 0 < x
      · simp [h]
      · have : x = 0 := by omega
        subst this; rfl
    by_cases h : 0 < x
    · rw [if_pos h] at e
      rw [List.filterMap_cons_some e, enF_all xs (k + 1), if_pos h]
      rfl
    · rw [if_neg h] at e
      rw [List.filterMap_cons_none e, enF_all xs (k + 1), if_neg h]
abbrev sp_holders : FSpec := FS (α := List Nat) 1 [] (fun xs => [(.sh, rowD xs)]) (fun xs => xs.length ≤ sizeLine) (fun xs r o => r = (.sh, rowD (hold xs)) ∧ o = []) noExc
def w_holders (kl : Kl) : WS :=
(sRet (wN fTupOf (aCons (oTmp (wComp fEnum (aCons (oLoc 0) aNil) (gTp 2 (gsCons (gN 1) (gsCons (gN 2) gsNil))) (wTB (w2 fGt (oLoc 2) (oTmp (wC (.int 0))))) (wVar 1) [1, 2])) aNil)))
theorem vc_holders (kl : Kl) : VC sp_holders 3 (w_holders kl) := FS.vc fun xs hl Q E hQ => by
  unfold w_holders
  walk_at "wp"
  refine compP enF rfl (by rw [enumD_len, natsD_len]; exact hl) (fun d acc N hd ha hN => ?_) ?_
  · obtain ⟨i, a, rfl⟩ := enumD_nats xs 0 d hd
    walk_at "wp"
    refine brD (fun h => ?_) (fun h => ?_)
    · have e : enF (.tup [.int (i : Int), .int (a : Int)]) = some (.int (i : Int)) := by simp only [enF]; rw [if_pos h]
      rw [e] at hN
      walk_at "wp"
      exact ⟨ha, hN⟩
    · have e : enF (.tup [.int (i : Int), .int (a : Int)]) = none := by simp only [enF]; rw [if_neg h]
      rw [e] at hN
      walk_at "wp"
      rw [Option.toList, List.append_nil] at hN
      exact hN
  · simp only [↓d_sSeq, ↓d_sAsg, ↓d_sExpr, ↓d_sRet, ↓d_sRetN, ↓d_sNext, ↓d_sAug, ↓d_sPar, ↓d_sBreak, ↓d_sCont, ↓d_wTB, ↓d_wTV, ↓d_wNotT, ↓d_wNotE, ↓d_w1, ↓d_w2, ↓d_wN, ↓d_wC, ↓d_wVar, ↓d_wMove, ↓d_wMut, ↓d_wSl, ↓d_oTmp, ↓d_oLoc, ↓d_aNil, ↓d_aCons, ↓d_aRev, res, ress, callA, takeA, nextR, backA, putB, ↓d_gN, ↓d_gTp, ↓d_gsCons, ↓d_gsNil, ↓d_gIx, canSet_eq, free_un, free_sh1, free_ow1, free_fr1, okR, okM, ↓d_pNone, ↓d_pInt, ↓d_fAdd, ↓d_fSub, ↓d_fMul, ↓d_fDiv, ↓d_fMod, ↓d_fPow, ↓d_fShr, ↓d_fShl, ↓d_fAnd, ↓d_fNeg, ↓d_fCmp, ↓d_fLt, ↓d_fLe, ↓d_fGt, ↓d_fGe, ↓d_fIs, ↓d_fIx, ↓d_fIxK, ↓d_fLen, ↓d_fLenK, ↓d_fAbs, ↓fIntOf_bl, ↓fIntOf_int, b2i_true, b2i_false, ↓d_fAddI, ↓d_fMulI, ↓d_fLst, ↓d_fTup, shs, fSeq, fZip, fRev, ↓d_mAppend, ↓d_mExtend, ↓d_mPop0, ↓d_mPopAt, D.isLst, locs, lend, lendI, lent, home, homeI, back1, wipeR, unwipe, ↓d_homeD, wYes, noX, Option.toList, List.getElem?_cons_zero, List.getElem?_cons_succ, List.set_cons_zero, List.set_cons_succ, List.length_cons, List.length_nil, List.headD_cons, List.headD_nil, List.tail_cons, List.tail_nil, List.reverse_cons, List.reverse_nil, List.nil_append, List.cons_append, Nat.zero_add, Bool.false_eq_true, if_true, if_false, ite_true, ite_false, List.contains_cons, List.contains_nil, initR, edOf, outsOf, slotR, List.map_cons, List.map_nil, List.replicate_succ, List.replicate_zero, List.append_nil, Nat.reduceAdd, Nat.reduceSub, Nat.reduceMul, FS_pm, FS_ar, Mo.own, sI, sD, nv, iv, ↓d_fListOf, ↓d_fTupOf, ↓d_parW1, ↓d_parW2, ↓d_sRaise, ↓sIf_eq, ↓wIf_eq, ↓wAndT_eq, ↓wOrT_eq, ↓wAndE_eq, ↓wOrE_eq, ↓sFor_eq, ↓wComp_eq, ↓wCall_eq, ↓sWhile_eq, ↓turnW_eq, brP_true, brP_false, true_and, and_true, pair_eta, atI_0, atI_1, atI_2, atI_3, natsD_cons, natsD_nil, decide_true, decide_false, Bool.not_true, Bool.not_false, Bool.true_xor, Bool.false_xor, Bool.xor_self, few_eq, few_lt, PowOk_iff, Nat.reduceLeDiff, Int.reduceLE, Int.reduceLT, Int.reduceAbs, Int.reduceMul, Int.reduceAdd, Int.reduceSub, Int.reduceNeg, Int.reduceDiv, Int.reduceMod, ↓fEq_int, ↓fEq_str, ↓fEq_bl, ↓fMax2, ↓fMin2, rowD, natsD_len, Nat.reducePow, Nat.reduceLT, Int.reduceToNat, Int.reducePow, and_self, Int.zero_add, List.getD_cons_zero, List.getD_cons_succ, ne_shfr, ne_owfr, ne_bofr, ne_lnfr, Int.toNat_natCast, Nat.one_mul, Nat.reduceBEq, reduceIte, ↓reduceIte, ↓wChain_eq, ↓d_fIsi, ↓d_fRevL, ↓d_fRgL, ↓d_fRgT, tyD, isiB, String.reduceBEq, Bool.or_true, Bool.true_or, Bool.or_false, Bool.false_or, Bool.and_true, Bool.true_and, Bool.and_false, Bool.false_and, ↓fEq_row, ↓fEq_nats, ↓fEq_nats0, rng_nats, ↓fSum_row, ↓fSum_nats, enF_all]
    exact hQ _ _ ⟨rfl, rfl⟩
abbrev sp_with_two : FSpec := FS (α := List Nat × Nat × Nat × Nat × Nat) 5 [] (fun a => [(.sh, rowD a.1), nv a.2.1, nv a.2.2.1, nv a.2.2.2.1, nv a.2.2.2.2]) (fun a => a.2.1 < a.1.length ∧ a.2.2.1 < a.1.length ∧ a.1.length ≤ sizeLine)
  (fun a r o => r = (.sh, rowD ((a.1.set a.2.1 a.2.2.2.1).set a.2.2.1 a.2.2.2.2)) ∧ o = []) noExc
def w_with_two (kl : Kl) : WS :=
(sSeq (sAsg (wN fListOf (aCons (oLoc 0) aNil)) (gN 5))
(sSeq (sAsg (wN fTup (aCons (oTmp (wVar 3)) (aCons (oTmp (wVar 4)) aNil))) (gTp 2 (gsCons (gIx 5 (oLoc 1)) (gsCons (gIx 5 (oLoc 2)) gsNil))))
(sRet (wN fTupOf (aCons (oLoc 5) aNil)))))
theorem ixN_nat {n k : Nat} (h : k < n) : ixN n (k : Int) = some k := by
  unfold ixN
  rw [if_pos (by omega), if_pos (by omega)]
  simp
theorem natsD_set (xs : List Nat) (i x : Nat) : (natsD xs).set i (.int (x : Int)) = natsD (xs.set i x) := by
  unfold natsD; rw [List.map_set]
theorem vc_with_two (kl : Kl) : VC sp_with_two 6 (w_with_two kl) := FS.vc fun ⟨xs, i, j, x, y⟩ hp Q E hQ => by
  obtain ⟨h1, h2, h3⟩ := hp
  simp only at h1 h2 h3 hQ
  unfold w_with_two
  simp only [↓d_sSeq, ↓d_sAsg, ↓d_sExpr, ↓d_sRet, ↓d_sRetN, ↓d_sNext, ↓d_sAug, ↓d_sPar, ↓d_sBreak, ↓d_sCont, ↓d_wTB, ↓d_wTV, ↓d_wNotT, ↓d_wNotE, ↓d_w1, ↓d_w2, ↓d_wN, ↓d_wC, ↓d_wVar, ↓d_wMove, ↓d_wMut, ↓d_wSl, ↓d_oTmp, ↓d_oLoc, ↓d_aNil, ↓d_aCons, ↓d_aRev, res, ress, callA, takeA, nextR, backA, putB, ↓d_gN, ↓d_gTp, ↓d_gsCons, ↓d_gsNil, ↓d_gIx, canSet_eq, free_un, free_sh1, free_ow1, free_fr1, okR, okM, ↓d_pNone, ↓d_pInt, ↓d_fAdd, ↓d_fSub, ↓d_fMul, ↓d_fDiv, ↓d_fMod, ↓d_fPow, ↓d_fShr, ↓d_fShl, ↓d_fAnd, ↓d_fNeg, ↓d_fCmp, ↓d_fLt, ↓d_fLe, ↓d_fGt, ↓d_fGe, ↓d_fIs, ↓d_fIx, ↓d_fIxK, ↓d_fLen, ↓d_fLenK, ↓d_fAbs, ↓fIntOf_bl, ↓fIntOf_int, b2i_true, b2i_false, ↓d_fAddI, ↓d_fMulI, ↓d_fLst, ↓d_fTup, shs, fSeq, fZip, fRev, ↓d_mAppend, ↓d_mExtend, ↓d_mPop0, ↓d_mPopAt, D.isLst, locs, lend, lendI, lent, home, homeI, back1, wipeR, unwipe, ↓d_homeD, wYes, noX, Option.toList, List.getElem?_cons_zero, List.getElem?_cons_succ, List.set_cons_zero, List.set_cons_succ, List.length_cons, List.length_nil, List.headD_cons, List.headD_nil, List.tail_cons, List.tail_nil, List.reverse_cons, List.reverse_nil, List.nil_append, List.cons_append, Nat.zero_add, Bool.false_eq_true, if_true, if_false, ite_true, ite_false, List.contains_cons, List.contains_nil, initR, edOf, outsOf, slotR, List.map_cons, List.map_nil, List.replicate_succ, List.replicate_zero, List.append_nil, Nat.reduceAdd, Nat.reduceSub, Nat.reduceMul, FS_pm, FS_ar, Mo.own, sI, sD, nv, iv, ↓d_fListOf, ↓d_fTupOf, ↓d_parW1, ↓d_parW2, ↓d_sRaise, ↓sIf_eq, ↓wIf_eq, ↓wAndT_eq, ↓wOrT_eq, ↓wAndE_eq, ↓wOrE_eq, ↓sFor_eq, ↓wComp_eq, ↓wCall_eq, ↓sWhile_eq, ↓turnW_eq, brP_true, brP_false, true_and, and_true, pair_eta, atI_0, atI_1, atI_2, atI_3, natsD_cons, natsD_nil, decide_true, decide_false, Bool.not_true, Bool.not_false, Bool.true_xor, Bool.false_xor, Bool.xor_self, few_eq, few_lt, PowOk_iff, Nat.reduceLeDiff, Int.reduceLE, Int.reduceLT, Int.reduceAbs, Int.reduceMul, Int.reduceAdd, Int.reduceSub, Int.reduceNeg, Int.reduceDiv, Int.reduceMod, ↓fEq_int, ↓fEq_str, ↓fEq_bl, ↓fMax2, ↓fMin2, rowD, natsD_len, Nat.reducePow, Nat.reduceLT, Int.reduceToNat, Int.reducePow, and_self, Int.zero_add, List.getD_cons_zero, List.getD_cons_succ, ne_shfr, ne_owfr, ne_bofr, ne_lnfr, Int.toNat_natCast, Nat.one_mul, Nat.reduceBEq, reduceIte, ↓reduceIte, ↓wChain_eq, ↓d_fIsi, ↓d_fRevL, ↓d_fRgL, ↓d_fRgT, tyD, isiB, String.reduceBEq, Bool.or_true, Bool.true_or, Bool.or_false, Bool.false_or, Bool.and_true, Bool.true_and, Bool.and_false, Bool.false_and, ↓fEq_row, ↓fEq_nats, ↓fEq_nats0, rng_nats, ↓fSum_row, ↓fSum_nats, ixN_nat h1, ixN_nat h2, natsD_set, List.length_set]
  exact hQ _ _ ⟨rfl, rfl⟩
def gotL (xs ys : List Nat) : Bool := (List.zipWith (fun a b => decide (a = 0) && decide (0 < b)) xs ys).any id
def zpF : D → Option D
  | .tup [.int a, .int b] => some (.bl (decide (a = 0) && decide (0 < b)))
  | _ => none
theorem zip_nats : ∀ (xs ys : List Nat) (d : D), d ∈ List.zipWith (fun a b => D.tup [a, b]) (natsD xs) (natsD ys) → ∃ a b : Nat, d = .tup [.int a, .int b]
  | [], _, d, h => by simp [natsD] at h
  | _ :: _, [], d, h => by simp [natsD] at h
  | x :: xs, y :: ys, d, h => by
    rw [natsD_cons, natsD_cons, List.zipWith_cons_cons] at h
    rcases List.mem_cons.mp h with rfl | h
    · exact ⟨x, y, rfl⟩
    · exact zip_nats xs ys d h
theorem zpF_all : ∀ (xs ys : List Nat), (List.zipWith (fun a b => D.tup [a, b]) (natsD xs) (natsD ys)).filterMap zpF = (List.zipWith (fun a b => decide (a = 0) && decide (0 < b)) xs ys).map D.bl
  | [], _ => by simp [natsD]
  | _ :: _, [] => by simp [natsD]
  | x :: xs, y :: ys => by
    rw [natsD_cons, natsD_cons, List.zipWith_cons_cons, List.zipWith_cons_cons, List.map_cons]
    have e : zpF (.tup [.int (x : Int), .int (y : Int)]) = some (.bl (decide (x = 0) && decide (0 < y))) := by
      simp [zpF]
    rw [List.filterMap_cons_some e, zpF_all xs ys]
abbrev sp_has_empty_got : FSpec := FS (α := List Nat × List Nat) 2 [] (fun a => [(.sh, rowD a.1), (.sh, rowD a.2)]) (fun a => a.1.length ≤ sizeLine) (fun a r o => r = (.sh, .bl (gotL a.1 a.2)) ∧ o = []) noExc
def w_has_empty_got (kl : Kl) : WS :=
(sRet (wN fAny (aCons (oTmp (wComp fZip (aCons (oLoc 0) (aCons (oLoc 1) aNil)) (gTp 2 (gsCons (gN 2) (gsCons (gN 3) gsNil))) wYes (wAndE (w2 (fEq false) (oLoc 2) (oTmp (wC (.int 0)))) (w2 fGt (oLoc 3) (oTmp (wC (.int 0))))) [2, 3])) aNil)))
theorem zip_turn {kl : Kl} {s0 s1 : Slot} {xs ys : List Nat} {d : D} {acc : List D} {N : List D → Rh → Prop} (hd : d ∈ List.zipWith (fun a b => D.tup [a, b]) (natsD xs) (natsD ys)) (ha : acc.length < sizeLine) (hN : N (acc ++ (zpF d).toList) [s0, s1, .un, .un]) :
    turnW (gTp 2 (gsCons (gN 2) (gsCons (gN 3) gsNil))) wYes (wAndE (w2 (fEq false) (oLoc 2) (oTmp (wC (.int 0)))) (w2 fGt (oLoc 3) (oTmp (wC (.int 0))))) [2, 3] d [s0, s1, .un, .un] acc N := by
  obtain ⟨a, b, rfl⟩ := zip_nats xs ys d hd
  have e : zpF (.tup [.int (a : Int), .int (b : Int)]) = some (.bl (decide ((a : Int) = 0) && decide (0 < (b : Int)))) := by simp only [zpF]
  rw [e] at hN
  walk_at "wp"
  refine brD (fun h => ?_) (fun h => ?_)
  · walk_at "wp"
    rw [decide_eq_true h, Bool.true_and, Option.toList] at hN
    exact ⟨ha, hN⟩
  · walk_at "wp"
    rw [decide_eq_false h, Bool.false_and, Option.toList] at hN
    exact ⟨ha, hN⟩
theorem vc_has_empty_got (kl : Kl) : VC sp_has_empty_got 4 (w_has_empty_got kl) := FS.vc fun ⟨xs, ys⟩ hp Q E hQ => by
  simp only at hp hQ
  unfold w_has_empty_got
  walk_at "wp"
  refine compP zpF rfl (by rw [List.length_zipWith, natsD_len]; omega) (fun d acc N hd ha hN => zip_turn (kl := kl) hd ha hN) ?_
  simp only [↓d_sSeq, ↓d_sAsg, ↓d_sExpr, ↓d_sRet, ↓d_sRetN, ↓d_sNext, ↓d_sAug, ↓d_sPar, ↓d_sBreak, ↓d_sCont, ↓d_wTB, ↓d_wTV, ↓d_wNotT, ↓d_wNotE, ↓d_w1, ↓d_w2, ↓d_wN, ↓d_wC, ↓d_wVar, ↓d_wMove, ↓d_wMut, ↓d_wSl, ↓d_oTmp, ↓d_oLoc, ↓d_aNil, ↓d_aCons, ↓d_aRev, res, ress, callA, takeA, nextR, backA, putB, ↓d_gN, ↓d_gTp, ↓d_gsCons, ↓d_gsNil, ↓d_gIx, canSet_eq, free_un, free_sh1, free_ow1, free_fr1, okR, okM, ↓d_pNone, ↓d_pInt, ↓d_fAdd, ↓d_fSub, ↓d_fMul, ↓d_fDiv, ↓d_fMod, ↓d_fPow, ↓d_fShr, ↓d_fShl, ↓d_fAnd, ↓d_fNeg, ↓d_fCmp, ↓d_fLt, ↓d_fLe, ↓d_fGt, ↓d_fGe, ↓d_fIs, ↓d_fIx, ↓d_fIxK, ↓d_fLen, ↓d_fLenK, ↓d_fAbs, ↓fIntOf_bl, ↓fIntOf_int, b2i_true, b2i_false, ↓d_fAddI, ↓d_fMulI, ↓d_fLst, ↓d_fTup, shs, fSeq, fZip, fRev, ↓d_mAppend, ↓d_mExtend, ↓d_mPop0, ↓d_mPopAt, D.isLst, locs, lend, lendI, lent, home, homeI, back1, wipeR, unwipe, ↓d_homeD, wYes, noX, Option.toList, List.getElem?_cons_zero, List.getElem?_cons_succ, List.set_cons_zero, List.set_cons_succ, List.length_cons, List.length_nil, List.headD_cons, List.headD_nil, List.tail_cons, List.tail_nil, List.reverse_cons, List.reverse_nil, List.nil_append, List.cons_append, Nat.zero_add, Bool.false_eq_true, if_true, if_false, ite_true, ite_false, List.contains_cons, List.contains_nil, initR, edOf, outsOf, slotR, List.map_cons, List.map_nil, List.replicate_succ, List.replicate_zero, List.append_nil, Nat.reduceAdd, Nat.reduceSub, Nat.reduceMul, FS_pm, FS_ar, Mo.own, sI, sD, nv, iv, ↓d_fListOf, ↓d_fTupOf, ↓d_parW1, ↓d_parW2, ↓d_sRaise, ↓sIf_eq, ↓wIf_eq, ↓wAndT_eq, ↓wOrT_eq, ↓wAndE_eq, ↓wOrE_eq, ↓sFor_eq, ↓wComp_eq, ↓wCall_eq, ↓sWhile_eq, ↓turnW_eq, brP_true, brP_false, true_and, and_true, pair_eta, atI_0, atI_1, atI_2, atI_3, natsD_cons, natsD_nil, decide_true, decide_false, Bool.not_true, Bool.not_false, Bool.true_xor, Bool.false_xor, Bool.xor_self, few_eq, few_lt, PowOk_iff, Nat.reduceLeDiff, Int.reduceLE, Int.reduceLT, Int.reduceAbs, Int.reduceMul, Int.reduceAdd, Int.reduceSub, Int.reduceNeg, Int.reduceDiv, Int.reduceMod, ↓fEq_int, ↓fEq_str, ↓fEq_bl, ↓fMax2, ↓fMin2, rowD, natsD_len, Nat.reducePow, Nat.reduceLT, Int.reduceToNat, Int.reducePow, and_self, Int.zero_add, List.getD_cons_zero, List.getD_cons_succ, ne_shfr, ne_owfr, ne_bofr, ne_lnfr, Int.toNat_natCast, Nat.one_mul, Nat.reduceBEq, reduceIte, ↓reduceIte, ↓wChain_eq, ↓d_fIsi, ↓d_fRevL, ↓d_fRgL, ↓d_fRgT, tyD, isiB, String.reduceBEq, Bool.or_true, Bool.true_or, Bool.or_false, Bool.false_or, Bool.and_true, Bool.true_and, Bool.and_false, Bool.false_and, ↓fEq_row, ↓fEq_nats, ↓fEq_nats0, rng_nats, ↓fSum_row, ↓fSum_nats, fAny_eq (zpF_all xs ys)]
  exact hQ _ _ ⟨rfl, rfl⟩
def w1? (c : Bool) (w : Str) : List Str := if c then [w] else []
def lastL (xs ys : List Nat) : List Str :=
  w1? (decide (xs.sum ≠ ys.sum)) "sum" ++ w1? (gotL xs ys) "nothing" ++ w1? (decide (od (gcdL xs) ≠ od (gcdL ys))) "measure" ++ w1? (decide (tw (gcdL ys) < tw (gcdL xs))) "twos"
    ++ w1? (decide (tw (gcdL ys) = tw (gcdL xs)) && decide (oddN xs < oddN ys)) "odd ones" ++ w1? (decide (tw (gcdL ys) = tw (gcdL xs)) && decide (oddN ys = hn ys)) "doubled"
abbrev sp_lasting : FSpec := FS (α := List Nat × List Nat) 2 [] (fun a => [(.sh, rowD a.1), (.sh, rowD a.2)]) (fun a => 0 < gcdL a.1 ∧ 0 < gcdL a.2 ∧ a.1.length ≤ sizeLine ∧ a.2.length ≤ sizeLine) (fun a r o => r = (.ow, .lst (strsD (lastL a.1 a.2))) ∧ o = []) noExc
def w_lasting (kl : Kl) : WS :=
(sSeq (sAsg (wN fLst aNil) (gN 2))
(sSeq (sIf (wTB (w2 (fEq true) (oTmp (wN fSum (aCons (oLoc 0) aNil))) (oTmp (wN fSum (aCons (oLoc 1) aNil)))))
(sExpr (wMut 2 D.isLst mAppend (aCons (oTmp (wC (.str "sum"))) aNil)))
sNext)
(sSeq (sIf (wTV (wCall sp_has_empty_got (aCons (oLoc 0) (aCons (oLoc 1) aNil))))
(sExpr (wMut 2 D.isLst mAppend (aCons (oTmp (wC (.str "nothing"))) aNil)))
sNext)
(sSeq (sIf (wTB (w2 (fEq true) (oTmp (wCall sp_measure (aCons (oLoc 0) aNil))) (oTmp (wCall sp_measure (aCons (oLoc 1) aNil)))))
(sExpr (wMut 2 D.isLst mAppend (aCons (oTmp (wC (.str "measure"))) aNil)))
sNext)
(sSeq (sPar [3, 4] (aCons (oTmp (wCall sp_twos (aCons (oLoc 0) aNil))) (aCons (oTmp (wCall sp_twos (aCons (oLoc 1) aNil))) aNil)))
(sSeq (sIf (wTB (w2 fLt (oLoc 4) (oLoc 3)))
(sExpr (wMut 2 D.isLst mAppend (aCons (oTmp (wC (.str "twos"))) aNil)))
sNext)
(sSeq (sIf (wAndT (wTB (w2 (fEq false) (oLoc 4) (oLoc 3))) (wTB (w2 fGt (oTmp (wCall sp_odd_ones (aCons (oLoc 1) aNil))) (oTmp (wCall sp_odd_ones (aCons (oLoc 0) aNil))))))
(sExpr (wMut 2 D.isLst mAppend (aCons (oTmp (wC (.str "odd ones"))) aNil)))
sNext)
(sSeq (sIf (wAndT (wTB (w2 (fEq false) (oLoc 4) (oLoc 3))) (wTB (w2 (fEq false) (oTmp (wCall sp_odd_ones (aCons (oLoc 1) aNil))) (oTmp (wN (fLenK kl) (aCons (oTmp (wCall sp_holders (aCons (oLoc 1) aNil))) aNil))))))
(sExpr (wMut 2 D.isLst mAppend (aCons (oTmp (wC (.str "doubled"))) aNil)))
sNext)
(sRet (wMove 2))))))))))
theorem app_if {c : Bool} {s0 s1 s3 s4 : Slot} {ws : List Str} {w : Str} {K : Rh → Prop} {ed : Ed} (hl : ws.length < 900) (hK : K [s0, s1, .dat .ow (.lst (strsD (ws ++ w1? c w))), s3, s4])
    (he : ed.nx = K) : @brP c ⟨sExpr (wMut 2 D.isLst mAppend (aCons (oTmp (wC (.str w))) aNil)) [s0, s1, .dat .ow (.lst (strsD ws)), s3, s4] ed, sNext [s0, s1, .dat .ow (.lst (strsD ws)), s3, s4] ed⟩ := by
  subst he
  cases c with
  | true =>
    refine brT rfl ?_
    walk_at "wp"
    refine ⟨by unfold strsD; rw [List.length_map]; have := sizeLine_big; omega, ?_⟩
    have e : strsD (ws ++ w1? true w) = strsD ws ++ [.str w] := by simp [strsD, w1?]
    rw [e] at hK
    exact hK
  | false =>
    refine brF rfl ?_
    have e : ws ++ w1? false w = ws := by simp [w1?]
    rw [e] at hK
    exact hK
theorem w1?_len (c : Bool) (w : Str) : (w1? c w).length ≤ 1 := by unfold w1?; split <;> simp
theorem vc_lasting (kl : Kl) : VC sp_lasting 5 (w_lasting kl) := FS.vc fun ⟨xs, ys⟩ hp Q E hQ => by
  obtain ⟨h1, h2, h3, h4⟩ := hp
  simp only at h1 h2 h3 h4 hQ
  unfold w_lasting
  have L := w1?_len
  refine @seqK _ _ _ _ fun K hK => ?_
  walk_at "wp"
  refine hK _ ?_
  clear hK K
  refine @seqK _ _ _ _ fun K hK => ?_
  walk_at "wp"
  have c1 : (!decide ((xs.sum : Int) = (ys.sum : Int))) = decide (xs.sum ≠ ys.sum) := by
    by_cases h : xs.sum = ys.sum <;> simp [h]; omega
  rw [c1]
  refine app_if (ws := []) (by simp) (hK _ ?_) rfl
  clear hK K
  refine @seqK _ _ _ _ fun K hK => ?_
  walk_at "wp"
  refine call0 (xs, ys) rfl rfl h3 ?_
  rintro _ _ ⟨rfl, rfl⟩
  walk_at "wp"
  refine app_if (by have := L (decide (xs.sum ≠ ys.sum)) "sum"; omega) (hK _ ?_) rfl
  clear hK K
  refine @seqK _ _ _ _ fun K hK => ?_
  walk_at "wp"
  refine call0 xs rfl rfl h1 ?_
  rintro _ _ ⟨rfl, rfl⟩
  walk_at "wp"
  refine call0 ys rfl rfl h2 ?_
  rintro _ _ ⟨rfl, rfl⟩
  walk_at "wp"
  have c2 : (!decide ((od (gcdL xs) : Int) = (od (gcdL ys) : Int))) = decide (od (gcdL xs) ≠ od (gcdL ys)) := by
    by_cases h : od (gcdL xs) = od (gcdL ys) <;> simp [h]; omega
  rw [c2]
  refine app_if (by have := L (decide (xs.sum ≠ ys.sum)) "sum"; have := L (gotL xs ys) "nothing"; simp only [List.length_append]; omega) (hK _ ?_) rfl
  clear hK K
  refine @seqK _ _ _ _ fun K hK => ?_
  walk_at "wp"
  refine call0 xs rfl rfl h1 ?_
  rintro _ _ ⟨rfl, rfl⟩
  walk_at "wp"
  refine call0 ys rfl rfl h2 ?_
  rintro _ _ ⟨rfl, rfl⟩
  walk_at "wp"
  refine hK _ ?_
  clear hK K
  generalize hw : (w1? (decide (xs.sum ≠ ys.sum)) "sum" ++ w1? (gotL xs ys) "nothing" ++ w1? (decide (od (gcdL xs) ≠ od (gcdL ys))) "measure") = W
  have hW : W.length ≤ 3 := by
    have := L (decide (xs.sum ≠ ys.sum)) "sum"
    have := L (gotL xs ys) "nothing"
    have := L (decide (od (gcdL xs) ≠ od (gcdL ys))) "measure"
    rw [← hw]; simp only [List.length_append]; omega
  refine @seqK _ _ _ _ fun K hK => ?_
  walk_at "wp"
  have c3 : decide ((tw (gcdL ys) : Int) < (tw (gcdL xs) : Int)) = decide (tw (gcdL ys) < tw (gcdL xs)) := by
    by_cases h : tw (gcdL ys) < tw (gcdL xs) <;> simp [h]
  rw [c3]
  refine app_if (by omega) (hK _ ?_) rfl
  clear hK K
  have L4 := L (decide (tw (gcdL ys) < tw (gcdL xs))) "twos"
  refine @seqK _ _ _ _ fun K hK => ?_
  have K5 : K [sD (rowD xs), sD (rowD ys), .dat .ow (.lst (strsD (W ++ w1? (decide (tw (gcdL ys) < tw (gcdL xs))) "twos" ++ w1? (decide (tw (gcdL ys) = tw (gcdL xs)) && decide (oddN xs < oddN ys)) "odd ones"))), sI (tw (gcdL xs)), sI (tw (gcdL ys))] := by
    refine hK _ ?_
    clear hK K
    refine @seqK _ _ _ _ fun K hK => ?_
    have K6 : K [sD (rowD xs), sD (rowD ys), .dat .ow (.lst (strsD (W ++ w1? (decide (tw (gcdL ys) < tw (gcdL xs))) "twos" ++ w1? (decide (tw (gcdL ys) = tw (gcdL xs)) && decide (oddN xs < oddN ys)) "odd ones" ++ w1? (decide (tw (gcdL ys) = tw (gcdL xs)) && decide (oddN ys = hn ys)) "doubled"))), sI (tw (gcdL xs)), sI (tw (gcdL ys))] := by
      refine hK _ ?_
      walk_at "wp"
      refine hQ _ _ ⟨?_, rfl⟩
      rw [← hw]
      rfl
    clear hK
    have L5 := L (decide (tw (gcdL ys) = tw (gcdL xs)) && decide (oddN xs < oddN ys)) "odd ones"
    walk_at "wp"
    refine brD (fun h => ?_) (fun h => ?_)
    · have h : tw (gcdL ys) = tw (gcdL xs) := by omega
      walk_at "wp"
      refine call0 ys rfl rfl ⟨h2, h4⟩ ?_
      rintro _ _ ⟨rfl, rfl⟩
      walk_at "wp"
      refine call0 ys rfl rfl h4 ?_
      rintro _ _ ⟨rfl, rfl⟩
      simp only [↓d_sSeq, ↓d_sAsg, ↓d_sExpr, ↓d_sRet, ↓d_sRetN, ↓d_sNext, ↓d_sAug, ↓d_sPar, ↓d_sBreak, ↓d_sCont, ↓d_wTB, ↓d_wTV, ↓d_wNotT, ↓d_wNotE, ↓d_w1, ↓d_w2, ↓d_wN, ↓d_wC, ↓d_wVar, ↓d_wMove, ↓d_wMut, ↓d_wSl, ↓d_oTmp, ↓d_oLoc, ↓d_aNil, ↓d_aCons, ↓d_aRev, res, ress, callA, takeA, nextR, backA, putB, ↓d_gN, ↓d_gTp, ↓d_gsCons, ↓d_gsNil, ↓d_gIx, canSet_eq, free_un, free_sh1, free_ow1, free_fr1, okR, okM, ↓d_pNone, ↓d_pInt, ↓d_fAdd, ↓d_fSub, ↓d_fMul, ↓d_fDiv, ↓d_fMod, ↓d_fPow, ↓d_fShr, ↓d_fShl, ↓d_fAnd, ↓d_fNeg, ↓d_fCmp, ↓d_fLt, ↓d_fLe, ↓d_fGt, ↓d_fGe, ↓d_fIs, ↓d_fIx, ↓d_fIxK, ↓d_fLen, ↓d_fLenK, ↓d_fAbs, ↓fIntOf_bl, ↓fIntOf_int, b2i_true, b2i_false, ↓d_fAddI, ↓d_fMulI, ↓d_fLst, ↓d_fTup, shs, fSeq, fZip, fRev, ↓d_mAppend, ↓d_mExtend, ↓d_mPop0, ↓d_mPopAt, D.isLst, locs, lend, lendI, lent, home, homeI, back1, wipeR, unwipe, ↓d_homeD, wYes, noX, Option.toList, List.getElem?_cons_zero, List.getElem?_cons_succ, List.set_cons_zero, List.set_cons_succ, List.length_cons, List.length_nil, List.headD_cons, List.headD_nil, List.tail_cons, List.tail_nil, List.reverse_cons, List.reverse_nil, List.nil_append, List.cons_append, Nat.zero_add, Bool.false_eq_true, if_true, if_false, ite_true, ite_false, List.contains_cons, List.contains_nil, initR, edOf, outsOf, slotR, List.map_cons, List.map_nil, List.replicate_succ, List.replicate_zero, List.append_nil, Nat.reduceAdd, Nat.reduceSub, Nat.reduceMul, FS_pm, FS_ar, Mo.own, sI, sD, nv, iv, ↓d_fListOf, ↓d_fTupOf, ↓d_parW1, ↓d_parW2, ↓d_sRaise, ↓sIf_eq, ↓wIf_eq, ↓wAndT_eq, ↓wOrT_eq, ↓wAndE_eq, ↓wOrE_eq, ↓sFor_eq, ↓wComp_eq, ↓wCall_eq, ↓sWhile_eq, ↓turnW_eq, brP_true, brP_false, true_and, and_true, pair_eta, atI_0, atI_1, atI_2, atI_3, natsD_cons, natsD_nil, decide_true, decide_false, Bool.not_true, Bool.not_false, Bool.true_xor, Bool.false_xor, Bool.xor_self, few_eq, few_lt, PowOk_iff, Nat.reduceLeDiff, Int.reduceLE, Int.reduceLT, Int.reduceAbs, Int.reduceMul, Int.reduceAdd, Int.reduceSub, Int.reduceNeg, Int.reduceDiv, Int.reduceMod, ↓fEq_int, ↓fEq_str, ↓fEq_bl, ↓fMax2, ↓fMin2, rowD, natsD_len, Nat.reducePow, Nat.reduceLT, Int.reduceToNat, Int.reducePow, and_self, Int.zero_add, List.getD_cons_zero, List.getD_cons_succ, ne_shfr, ne_owfr, ne_bofr, ne_lnfr, Int.toNat_natCast, Nat.one_mul, Nat.reduceBEq, reduceIte, ↓reduceIte, ↓wChain_eq, ↓d_fIsi, ↓d_fRevL, ↓d_fRgL, ↓d_fRgT, tyD, isiB, String.reduceBEq, Bool.or_true, Bool.true_or, Bool.or_false, Bool.false_or, Bool.and_true, Bool.true_and, Bool.and_false, Bool.false_and, ↓fEq_row, ↓fEq_nats, ↓fEq_nats0, rng_nats, ↓fSum_row, ↓fSum_nats, hold_len]
      refine app_if (by simp only [List.length_append]; omega) ?_ rfl
      have e : decide ((oddN ys : Int) = (hn ys : Int)) = (decide (tw (gcdL ys) = tw (gcdL xs)) && decide (oddN ys = hn ys)) := by
        by_cases h7 : oddN ys = hn ys <;> simp [h, h7]; omega
      rw [e]
      exact K6
    · have h : ¬ tw (gcdL ys) = tw (gcdL xs) := by omega
      refine app_if (by simp only [List.length_append]; omega) ?_ rfl
      have e : (decide (tw (gcdL ys) = tw (gcdL xs)) && decide (oddN ys = hn ys)) = false := by simp [h]
      rw [e] at K6
      exact K6
  clear hK
  walk_at "wp"
  refine brD (fun h => ?_) (fun h => ?_)
  · have h : tw (gcdL ys) = tw (gcdL xs) := by omega
    walk_at "wp"
    refine call0 ys rfl rfl ⟨h2, h4⟩ ?_
    rintro _ _ ⟨rfl, rfl⟩
    walk_at "wp"
    refine call0 xs rfl rfl ⟨h1, h3⟩ ?_
    rintro _ _ ⟨rfl, rfl⟩
    walk_at "wp"
    refine app_if (by simp only [List.length_append]; omega) ?_ rfl
    have e : decide ((oddN xs : Int) < (oddN ys : Int)) = (decide (tw (gcdL ys) = tw (gcdL xs)) && decide (oddN xs < oddN ys)) := by
      by_cases h7 : oddN xs < oddN ys <;> simp [h, h7]
    rw [e]
    exact K5
  · have h : ¬ tw (gcdL ys) = tw (gcdL xs) := by omega
    refine app_if (by simp only [List.length_append]; omega) ?_ rfl
    have e : (decide (tw (gcdL ys) = tw (gcdL xs)) && decide (oddN xs < oddN ys)) = false := by simp [h]
    rw [e] at K5
    exact K5
end G
end
section
set_option Elab.async false
set_option linter.all false
set_option maxRecDepth 100000
set_option maxHeartbeats 1000000
set_option exponentiation.threshold 100000
namespace G
open PySem PySem.Spec L2
local macro_rules | `(tactic| walk_at "wk") => `(tactic| simp only [↓sSeq_eq, ↓d_sAsg, ↓d_sExpr, ↓d_sRet, ↓d_sRetN, ↓d_sNext, ↓d_sAug, ↓d_sPar, ↓d_sBreak, ↓d_sCont, ↓d_wTB, ↓d_wTV, ↓d_wNotT, ↓d_wNotE, ↓d_w1, ↓d_w2, ↓d_wN, ↓d_wC, ↓d_wVar, ↓d_wMove, ↓d_wMut, ↓d_wSl, ↓d_oTmp, ↓d_oLoc, ↓d_aNil, ↓d_aCons, ↓d_aRev, res, ress, callA, takeA, nextR, backA, putB, ↓d_gN, ↓d_gTp, ↓d_gsCons, ↓d_gsNil, ↓d_gIx, canSet_eq, free_un, free_sh1, free_ow1, free_fr1, okR, okM, ↓d_pNone, ↓d_pInt, ↓d_fAdd, ↓d_fSub, ↓d_fMul, ↓d_fDiv, ↓d_fMod, ↓d_fPow, ↓d_fShr, ↓d_fShl, ↓d_fAnd, ↓d_fNeg, ↓d_fCmp, ↓d_fLt, ↓d_fLe, ↓d_fGt, ↓d_fGe, ↓d_fIs, ↓d_fIx, ↓d_fIxK, ↓d_fLen, ↓d_fLenK, ↓d_fAbs, ↓fIntOf_bl, ↓fIntOf_int, b2i_true, b2i_false, ↓d_fAddI, ↓d_fMulI, ↓d_fLst, ↓d_fTup, shs, fSeq, fZip, fRev, ↓d_mAppend, ↓d_mExtend, ↓d_mPop0, ↓d_mPopAt, D.isLst, locs, lend, lendI, lent, home, homeI, back1, wipeR, unwipe, ↓d_homeD, wYes, noX, Option.toList, List.getElem?_cons_zero, List.getElem?_cons_succ, List.set_cons_zero, List.set_cons_succ, List.length_cons, List.length_nil, List.headD_cons, List.headD_nil, List.tail_cons, List.tail_nil, List.reverse_cons, List.reverse_nil, List.nil_append, List.cons_append, Nat.zero_add, Bool.false_eq_true, if_true, if_false, ite_true, ite_false, List.contains_cons, List.contains_nil, initR, edOf, outsOf, slotR, List.map_cons, List.map_nil, List.replicate_succ, List.replicate_zero, List.append_nil, Nat.reduceAdd, Nat.reduceSub, Nat.reduceMul, FS_pm, FS_ar, Mo.own, sI, sD, nv, iv, ↓d_fListOf, ↓d_fTupOf, ↓d_parW1, ↓d_parW2, ↓d_sRaise, ↓sIf_eq, ↓wIf_eq, ↓wAndT_eq, ↓wOrT_eq, ↓wAndE_eq, ↓wOrE_eq, ↓sFor_eq, ↓wComp_eq, ↓wCall_eq, ↓sWhile_eq, ↓turnW_eq, brP_true, brP_false, true_and, and_true, pair_eta, atI_0, atI_1, atI_2, atI_3, natsD_cons, natsD_nil, decide_true, decide_false, Bool.not_true, Bool.not_false, Bool.true_xor, Bool.false_xor, Bool.xor_self, few_eq, few_lt, PowOk_iff, Nat.reduceLeDiff, Int.reduceLE, Int.reduceLT, Int.reduceAbs, Int.reduceMul, Int.reduceAdd, Int.reduceSub, Int.reduceNeg, Int.reduceDiv, Int.reduceMod, ↓fEq_int, ↓fEq_str, ↓fEq_bl, ↓fMax2, ↓fMin2, rowD, natsD_len, Nat.reducePow, Nat.reduceLT, Int.reduceToNat, Int.reducePow, and_self, Int.zero_add, List.getD_cons_zero, List.getD_cons_succ, ne_shfr, ne_owfr, ne_bofr, ne_lnfr, Int.toNat_natCast, Nat.one_mul, Nat.reduceBEq, reduceIte, ↓reduceIte, ↓wChain_eq, ↓d_fIsi, ↓d_fRevL, ↓d_fRgL, ↓d_fRgT, tyD, isiB, String.reduceBEq, Bool.or_true, Bool.true_or, Bool.or_false, Bool.false_or, Bool.and_true, Bool.true_and, Bool.and_false, Bool.false_and, ↓fEq_row, ↓fEq_nats, ↓fEq_nats0, rng_nats, ↓fSum_row, ↓fSum_nats])
local macro_rules | `(tactic| walk_at "wp") => `(tactic| simp only [↓d_sSeq, ↓d_sAsg, ↓d_sExpr, ↓d_sRet, ↓d_sRetN, ↓d_sNext, ↓d_sAug, ↓d_sPar, ↓d_sBreak, ↓d_sCont, ↓d_wTB, ↓d_wTV, ↓d_wNotT, ↓d_wNotE, ↓d_w1, ↓d_w2, ↓d_wN, ↓d_wC, ↓d_wVar, ↓d_wMove, ↓d_wMut, ↓d_wSl, ↓d_oTmp, ↓d_oLoc, ↓d_aNil, ↓d_aCons, ↓d_aRev, res, ress, callA, takeA, nextR, backA, putB, ↓d_gN, ↓d_gTp, ↓d_gsCons, ↓d_gsNil, ↓d_gIx, canSet_eq, free_un, free_sh1, free_ow1, free_fr1, okR, okM, ↓d_pNone, ↓d_pInt, ↓d_fAdd, ↓d_fSub, ↓d_fMul, ↓d_fDiv, ↓d_fMod, ↓d_fPow, ↓d_fShr, ↓d_fShl, ↓d_fAnd, ↓d_fNeg, ↓d_fCmp, ↓d_fLt, ↓d_fLe, ↓d_fGt, ↓d_fGe, ↓d_fIs, ↓d_fIx, ↓d_fIxK, ↓d_fLen, ↓d_fLenK, ↓d_fAbs, ↓fIntOf_bl, ↓fIntOf_int, b2i_true, b2i_false, ↓d_fAddI, ↓d_fMulI, ↓d_fLst, ↓d_fTup, shs, fSeq, fZip, fRev, ↓d_mAppend, ↓d_mExtend, ↓d_mPop0, ↓d_mPopAt, D.isLst, locs, lend, lendI, lent, home, homeI, back1, wipeR, unwipe, ↓d_homeD, wYes, noX, Option.toList, List.getElem?_cons_zero, List.getElem?_cons_succ, List.set_cons_zero, List.set_cons_succ, List.length_cons, List.length_nil, List.headD_cons, List.headD_nil, List.tail_cons, List.tail_nil, List.reverse_cons, List.reverse_nil, List.nil_append, List.cons_append, Nat.zero_add, Bool.false_eq_true, if_true, if_false, ite_true, ite_false, List.contains_cons, List.contains_nil, initR, edOf, outsOf, slotR, List.map_cons, List.map_nil, List.replicate_succ, List.replicate_zero, List.append_nil, Nat.reduceAdd, Nat.reduceSub, Nat.reduceMul, FS_pm, FS_ar, Mo.own, sI, sD, nv, iv, ↓d_fListOf, ↓d_fTupOf, ↓d_parW1, ↓d_parW2, ↓d_sRaise, ↓sIf_eq, ↓wIf_eq, ↓wAndT_eq, ↓wOrT_eq, ↓wAndE_eq, ↓wOrE_eq, ↓sFor_eq, ↓wComp_eq, ↓wCall_eq, ↓sWhile_eq, ↓turnW_eq, brP_true, brP_false, true_and, and_true, pair_eta, atI_0, atI_1, atI_2, atI_3, natsD_cons, natsD_nil, decide_true, decide_false, Bool.not_true, Bool.not_false, Bool.true_xor, Bool.false_xor, Bool.xor_self, few_eq, few_lt, PowOk_iff, Nat.reduceLeDiff, Int.reduceLE, Int.reduceLT, Int.reduceAbs, Int.reduceMul, Int.reduceAdd, Int.reduceSub, Int.reduceNeg, Int.reduceDiv, Int.reduceMod, ↓fEq_int, ↓fEq_str, ↓fEq_bl, ↓fMax2, ↓fMin2, rowD, natsD_len, Nat.reducePow, Nat.reduceLT, Int.reduceToNat, Int.reducePow, and_self, Int.zero_add, List.getD_cons_zero, List.getD_cons_succ, ne_shfr, ne_owfr, ne_bofr, ne_lnfr, Int.toNat_natCast, Nat.one_mul, Nat.reduceBEq, reduceIte, ↓reduceIte, ↓wChain_eq, ↓d_fIsi, ↓d_fRevL, ↓d_fRgL, ↓d_fRgT, tyD, isiB, String.reduceBEq, Bool.or_true, Bool.true_or, Bool.or_false, Bool.false_or, Bool.and_true, Bool.true_and, Bool.and_false, Bool.false_and, ↓fEq_row, ↓fEq_nats, ↓fEq_nats0, rng_nats, ↓fSum_row, ↓fSum_nats])
abbrev spNone (n : Nat) : FSpec := FS (α := Unit) n [] (fun _ => []) (fun _ => False) (fun _ _ _ => True) noExc
theorem vcNone {n k : Nat} {w : WS} : VC (spNone n) k w := FS.vc fun _ h => h.elim
abbrev sp_comes_of_two : FSpec := spNone 2
theorem mem_w1 {c : Bool} {w x : Str} (h : x ∈ w1? c w) : x = w := by
  unfold w1? at h
  split at h
  · simpa using h
  · simp at h
theorem lastL_ok {xs ys : List Nat} : ∀ x ∈ lastL xs ys, PyData.strOk x = true := by
  intro x hx
  unfold lastL at hx
  simp only [List.mem_append] at hx
  rcases hx with ((((h | h) | h) | h) | h) | h <;> (rw [mem_w1 h]; decide +kernel)
def brokenL (xs ys : List Nat) : List Str := if xs = ys then [] else if xs.length = ys.length then lastL xs ys else ["places"]
theorem brokenL_ok {xs ys : List Nat} : ∀ x ∈ brokenL xs ys, PyData.strOk x = true := by
  intro x hx
  unfold brokenL at hx
  split at hx
  · cases hx
  split at hx
  · exact lastL_ok x hx
  · simp at hx; subst hx; decide +kernel
abbrev sp_broken : FSpec := FS (α := List Nat × List Nat) 2 [] (fun a => [(.sh, rowD a.1), (.sh, rowD a.2)]) (fun a => 0 < gcdL a.1 ∧ 0 < gcdL a.2 ∧ a.1.length ≤ sizeLine ∧ a.2.length ≤ sizeLine ∧ (a.1 ≠ a.2 → a.1.length = a.2.length → lastL a.1 a.2 = [] → 3 ≤ hn a.1))
  (fun a r o => r = (.sh, .tup (strsD (brokenL a.1 a.2))) ∧ o = []) noExc
def w_broken (kl : Kl) : WS :=
(sSeq (sIf (wTB (w2 (fEq false) (oLoc 0) (oLoc 1)))
(sRet (wN fTup aNil))
sNext)
(sSeq (sIf (wTB (w2 (fEq true) (oTmp (wN (fLenK kl) (aCons (oLoc 0) aNil))) (oTmp (wN (fLenK kl) (aCons (oLoc 1) aNil)))))
(sRet (wN fTup (aCons (oTmp (wC (.str "places"))) aNil)))
sNext)
(sSeq (sAsg (wCall sp_lasting (aCons (oLoc 0) (aCons (oLoc 1) aNil))) (gN 2))
(sSeq (sIf (wAndT (wTB (w2 (fEq false) (oLoc 2) (oTmp (wN fLst aNil)))) (wTB (w2 fLt (oTmp (wN (fLenK kl) (aCons (oTmp (wCall sp_holders (aCons (oLoc 0) aNil))) aNil))) (oTmp (wC (.int 3))))))
(sSeq (sIf (wTB (w2 fGt (oTmp (wN fSum (aCons (oLoc 0) aNil))) (oTmp (wC (.int 100000)))))
(sRaise "TooGreat")
sNext)
(sIf (wNotT (wTV (wCall sp_comes_of_two (aCons (oLoc 0) (aCons (oLoc 1) aNil)))))
(sExpr (wMut 2 D.isLst mAppend (aCons (oTmp (wC (.str "pair"))) aNil)))
sNext))
sNext)
(sRet (wN fTupOf (aCons (oLoc 2) aNil)))))))
theorem vc_broken (kl : Kl) : VC sp_broken 3 (w_broken kl) := FS.vc fun ⟨xs, ys⟩ hp Q E hQ => by
  obtain ⟨h1, h2, h3, h4, h5⟩ := hp
  simp only at h1 h2 h3 h4 h5 hQ
  unfold w_broken
  walk_at "wp"
  refine brD (fun h => ?_) (fun h => ?_)
  · walk_at "wp"
    refine hQ _ _ ⟨?_, rfl⟩
    unfold brokenL; rw [if_pos h]; rfl
  walk_at "wp"
  refine brN (fun h6 => ?_) (fun h6 => ?_)
  · walk_at "wp"
    refine hQ _ _ ⟨?_, rfl⟩
    have h6 : ¬ xs.length = ys.length := by omega
    unfold brokenL; rw [if_neg h, if_neg h6]; rfl
  have h6 : xs.length = ys.length := by omega
  have e : brokenL xs ys = lastL xs ys := by unfold brokenL; rw [if_neg h, if_pos h6]
  rw [e] at hQ
  walk_at "wk"
  refine seqP fun K hK => ?_
  walk_at "wp"
  refine call0 (xs, ys) rfl rfl ⟨h1, h2, h3, h4⟩ ?_
  rintro _ _ ⟨rfl, rfl⟩
  walk_at "wp"
  refine hK _ ?_
  clear hK K
  walk_at "wk"
  refine seqP fun K hK => ?_
  have fin : K [sD (rowD xs), sD (rowD ys), .dat .ow (.lst (strsD (lastL xs ys)))] := by
    refine hK _ ?_
    walk_at "wp"
    exact hQ _ _ ⟨rfl, rfl⟩
  have e0 : ∀ {n m : Mo} {Q : R → Prop}, fEq false (n, .lst (strsD (lastL xs ys))) (m, .lst []) Q = Q (.sh, .bl (false ^^ decide (lastL xs ys = []))) := fun {n m Q} => fEq_strs (ys := []) lastL_ok nofun
  simp only [↓d_sSeq, ↓d_sAsg, ↓d_sExpr, ↓d_sRet, ↓d_sRetN, ↓d_sNext, ↓d_sAug, ↓d_sPar, ↓d_sBreak, ↓d_sCont, ↓d_wTB, ↓d_wTV, ↓d_wNotT, ↓d_wNotE, ↓d_w1, ↓d_w2, ↓d_wN, ↓d_wC, ↓d_wVar, ↓d_wMove, ↓d_wMut, ↓d_wSl, ↓d_oTmp, ↓d_oLoc, ↓d_aNil, ↓d_aCons, ↓d_aRev, res, ress, callA, takeA, nextR, backA, putB, ↓d_gN, ↓d_gTp, ↓d_gsCons, ↓d_gsNil, ↓d_gIx, canSet_eq, free_un, free_sh1, free_ow1, free_fr1, okR, okM, ↓d_pNone, ↓d_pInt, ↓d_fAdd, ↓d_fSub, ↓d_fMul, ↓d_fDiv, ↓d_fMod, ↓d_fPow, ↓d_fShr, ↓d_fShl, ↓d_fAnd, ↓d_fNeg, ↓d_fCmp, ↓d_fLt, ↓d_fLe, ↓d_fGt, ↓d_fGe, ↓d_fIs, ↓d_fIx, ↓d_fIxK, ↓d_fLen, ↓d_fLenK, ↓d_fAbs, ↓fIntOf_bl, ↓fIntOf_int, b2i_true, b2i_false, ↓d_fAddI, ↓d_fMulI, ↓d_fLst, ↓d_fTup, shs, fSeq, fZip, fRev, ↓d_mAppend, ↓d_mExtend, ↓d_mPop0, ↓d_mPopAt, D.isLst, locs, lend, lendI, lent, home, homeI, back1, wipeR, unwipe, ↓d_homeD, wYes, noX, Option.toList, List.getElem?_cons_zero, List.getElem?_cons_succ, List.set_cons_zero, List.set_cons_succ, List.length_cons, List.length_nil, List.headD_cons, List.headD_nil, List.tail_cons, List.tail_nil, List.reverse_cons, List.reverse_nil, List.nil_append, List.cons_append, Nat.zero_add, Bool.false_eq_true, if_true, if_false, ite_true, ite_false, List.contains_cons, List.contains_nil, initR, edOf, outsOf, slotR, List.map_cons, List.map_nil, List.replicate_succ, List.replicate_zero, List.append_nil, Nat.reduceAdd, Nat.reduceSub, Nat.reduceMul, FS_pm, FS_ar, Mo.own, sI, sD, nv, iv, ↓d_fListOf, ↓d_fTupOf, ↓d_parW1, ↓d_parW2, ↓d_sRaise, ↓sIf_eq, ↓wIf_eq, ↓wAndT_eq, ↓wOrT_eq, ↓wAndE_eq, ↓wOrE_eq, ↓sFor_eq, ↓wComp_eq, ↓wCall_eq, ↓sWhile_eq, ↓turnW_eq, brP_true, brP_false, true_and, and_true, pair_eta, atI_0, atI_1, atI_2, atI_3, natsD_cons, natsD_nil, decide_true, decide_false, Bool.not_true, Bool.not_false, Bool.true_xor, Bool.false_xor, Bool.xor_self, few_eq, few_lt, PowOk_iff, Nat.reduceLeDiff, Int.reduceLE, Int.reduceLT, Int.reduceAbs, Int.reduceMul, Int.reduceAdd, Int.reduceSub, Int.reduceNeg, Int.reduceDiv, Int.reduceMod, ↓fEq_int, ↓fEq_str, ↓fEq_bl, ↓fMax2, ↓fMin2, rowD, natsD_len, Nat.reducePow, Nat.reduceLT, Int.reduceToNat, Int.reducePow, and_self, Int.zero_add, List.getD_cons_zero, List.getD_cons_succ, ne_shfr, ne_owfr, ne_bofr, ne_lnfr, Int.toNat_natCast, Nat.one_mul, Nat.reduceBEq, reduceIte, ↓reduceIte, ↓wChain_eq, ↓d_fIsi, ↓d_fRevL, ↓d_fRgL, ↓d_fRgT, tyD, isiB, String.reduceBEq, Bool.or_true, Bool.true_or, Bool.or_false, Bool.false_or, Bool.and_true, Bool.true_and, Bool.and_false, Bool.false_and, ↓fEq_row, ↓fEq_nats, ↓fEq_nats0, rng_nats, ↓fSum_row, ↓fSum_nats, e0]
  refine brD (fun h7 => ?_) (fun h7 => ?_)
  · walk_at "wp"
    refine call0 xs rfl rfl h3 ?_
    rintro _ _ ⟨rfl, rfl⟩
    simp only [↓d_sSeq, ↓d_sAsg, ↓d_sExpr, ↓d_sRet, ↓d_sRetN, ↓d_sNext, ↓d_sAug, ↓d_sPar, ↓d_sBreak, ↓d_sCont, ↓d_wTB, ↓d_wTV, ↓d_wNotT, ↓d_wNotE, ↓d_w1, ↓d_w2, ↓d_wN, ↓d_wC, ↓d_wVar, ↓d_wMove, ↓d_wMut, ↓d_wSl, ↓d_oTmp, ↓d_oLoc, ↓d_aNil, ↓d_aCons, ↓d_aRev, res, ress, callA, takeA, nextR, backA, putB, ↓d_gN, ↓d_gTp, ↓d_gsCons, ↓d_gsNil, ↓d_gIx, canSet_eq, free_un, free_sh1, free_ow1, free_fr1, okR, okM, ↓d_pNone, ↓d_pInt, ↓d_fAdd, ↓d_fSub, ↓d_fMul, ↓d_fDiv, ↓d_fMod, ↓d_fPow, ↓d_fShr, ↓d_fShl, ↓d_fAnd, ↓d_fNeg, ↓d_fCmp, ↓d_fLt, ↓d_fLe, ↓d_fGt, ↓d_fGe, ↓d_fIs, ↓d_fIx, ↓d_fIxK, ↓d_fLen, ↓d_fLenK, ↓d_fAbs, ↓fIntOf_bl, ↓fIntOf_int, b2i_true, b2i_false, ↓d_fAddI, ↓d_fMulI, ↓d_fLst, ↓d_fTup, shs, fSeq, fZip, fRev, ↓d_mAppend, ↓d_mExtend, ↓d_mPop0, ↓d_mPopAt, D.isLst, locs, lend, lendI, lent, home, homeI, back1, wipeR, unwipe, ↓d_homeD, wYes, noX, Option.toList, List.getElem?_cons_zero, List.getElem?_cons_succ, List.set_cons_zero, List.set_cons_succ, List.length_cons, List.length_nil, List.headD_cons, List.headD_nil, List.tail_cons, List.tail_nil, List.reverse_cons, List.reverse_nil, List.nil_append, List.cons_append, Nat.zero_add, Bool.false_eq_true, if_true, if_false, ite_true, ite_false, List.contains_cons, List.contains_nil, initR, edOf, outsOf, slotR, List.map_cons, List.map_nil, List.replicate_succ, List.replicate_zero, List.append_nil, Nat.reduceAdd, Nat.reduceSub, Nat.reduceMul, FS_pm, FS_ar, Mo.own, sI, sD, nv, iv, ↓d_fListOf, ↓d_fTupOf, ↓d_parW1, ↓d_parW2, ↓d_sRaise, ↓sIf_eq, ↓wIf_eq, ↓wAndT_eq, ↓wOrT_eq, ↓wAndE_eq, ↓wOrE_eq, ↓sFor_eq, ↓wComp_eq, ↓wCall_eq, ↓sWhile_eq, ↓turnW_eq, brP_true, brP_false, true_and, and_true, pair_eta, atI_0, atI_1, atI_2, atI_3, natsD_cons, natsD_nil, decide_true, decide_false, Bool.not_true, Bool.not_false, Bool.true_xor, Bool.false_xor, Bool.xor_self, few_eq, few_lt, PowOk_iff, Nat.reduceLeDiff, Int.reduceLE, Int.reduceLT, Int.reduceAbs, Int.reduceMul, Int.reduceAdd, Int.reduceSub, Int.reduceNeg, Int.reduceDiv, Int.reduceMod, ↓fEq_int, ↓fEq_str, ↓fEq_bl, ↓fMax2, ↓fMin2, rowD, natsD_len, Nat.reducePow, Nat.reduceLT, Int.reduceToNat, Int.reducePow, and_self, Int.zero_add, List.getD_cons_zero, List.getD_cons_succ, ne_shfr, ne_owfr, ne_bofr, ne_lnfr, Int.toNat_natCast, Nat.one_mul, Nat.reduceBEq, reduceIte, ↓reduceIte, ↓wChain_eq, ↓d_fIsi, ↓d_fRevL, ↓d_fRgL, ↓d_fRgT, tyD, isiB, String.reduceBEq, Bool.or_true, Bool.true_or, Bool.or_false, Bool.false_or, Bool.and_true, Bool.true_and, Bool.and_false, Bool.false_and, ↓fEq_row, ↓fEq_nats, ↓fEq_nats0, rng_nats, ↓fSum_row, ↓fSum_nats, hold_len]
    have := h5 h h6 h7
    exact brF (decide_eq_false (by omega)) fin
  · exact brF rfl fin
end G
end
section
set_option Elab.async false
set_option linter.all false
set_option maxRecDepth 100000
set_option maxHeartbeats 1000000
set_option exponentiation.threshold 100000
namespace G
open PySem PySem.Spec L2
local macro_rules | `(tactic| walk_at "wk") => `(tactic| simp only [↓sSeq_eq, ↓d_sAsg, ↓d_sExpr, ↓d_sRet, ↓d_sRetN, ↓d_sNext, ↓d_sAug, ↓d_sPar, ↓d_sBreak, ↓d_sCont, ↓d_wTB, ↓d_wTV, ↓d_wNotT, ↓d_wNotE, ↓d_w1, ↓d_w2, ↓d_wN, ↓d_wC, ↓d_wVar, ↓d_wMove, ↓d_wMut, ↓d_wSl, ↓d_oTmp, ↓d_oLoc, ↓d_aNil, ↓d_aCons, ↓d_aRev, res, ress, callA, takeA, nextR, backA, putB, ↓d_gN, ↓d_gTp, ↓d_gsCons, ↓d_gsNil, ↓d_gIx, canSet_eq, free_un, free_sh1, free_ow1, free_fr1, okR, okM, ↓d_pNone, ↓d_pInt, ↓d_fAdd, ↓d_fSub, ↓d_fMul, ↓d_fDiv, ↓d_fMod, ↓d_fPow, ↓d_fShr, ↓d_fShl, ↓d_fAnd, ↓d_fNeg, ↓d_fCmp, ↓d_fLt, ↓d_fLe, ↓d_fGt, ↓d_fGe, ↓d_fIs, ↓d_fIx, ↓d_fIxK, ↓d_fLen, ↓d_fLenK, ↓d_fAbs, ↓fIntOf_bl, ↓fIntOf_int, b2i_true, b2i_false, ↓d_fAddI, ↓d_fMulI, ↓d_fLst, ↓d_fTup, shs, fSeq, fZip, fRev, ↓d_mAppend, ↓d_mExtend, ↓d_mPop0, ↓d_mPopAt, D.isLst, locs, lend, lendI, lent, home, homeI, back1, wipeR, unwipe, ↓d_homeD, wYes, noX, Option.toList, List.getElem?_cons_zero, List.getElem?_cons_succ, List.set_cons_zero, List.set_cons_succ, List.length_cons, List.length_nil, List.headD_cons, List.headD_nil, List.tail_cons, List.tail_nil, List.reverse_cons, List.reverse_nil, List.nil_append, List.cons_append, Nat.zero_add, Bool.false_eq_true, if_true, if_false, ite_true, ite_false, List.contains_cons, List.contains_nil, initR, edOf, outsOf, slotR, List.map_cons, List.map_nil, List.replicate_succ, List.replicate_zero, List.append_nil, Nat.reduceAdd, Nat.reduceSub, Nat.reduceMul, FS_pm, FS_ar, Mo.own, sI, sD, nv, iv, ↓d_fListOf, ↓d_fTupOf, ↓d_parW1, ↓d_parW2, ↓d_sRaise, ↓sIf_eq, ↓wIf_eq, ↓wAndT_eq, ↓wOrT_eq, ↓wAndE_eq, ↓wOrE_eq, ↓sFor_eq, ↓wComp_eq, ↓wCall_eq, ↓sWhile_eq, ↓turnW_eq, brP_true, brP_false, true_and, and_true, pair_eta, atI_0, atI_1, atI_2, atI_3, natsD_cons, natsD_nil, decide_true, decide_false, Bool.not_true, Bool.not_false, Bool.true_xor, Bool.false_xor, Bool.xor_self, few_eq, few_lt, PowOk_iff, Nat.reduceLeDiff, Int.reduceLE, Int.reduceLT, Int.reduceAbs, Int.reduceMul, Int.reduceAdd, Int.reduceSub, Int.reduceNeg, Int.reduceDiv, Int.reduceMod, ↓fEq_int, ↓fEq_str, ↓fEq_bl, ↓fMax2, ↓fMin2, rowD, natsD_len, Nat.reducePow, Nat.reduceLT, Int.reduceToNat, Int.reducePow, and_self, Int.zero_add, List.getD_cons_zero, List.getD_cons_succ, ne_shfr, ne_owfr, ne_bofr, ne_lnfr, Int.toNat_natCast, Nat.one_mul, Nat.reduceBEq, reduceIte, ↓reduceIte, ↓wChain_eq, ↓d_fIsi, ↓d_fRevL, ↓d_fRgL, ↓d_fRgT, tyD, isiB, String.reduceBEq, Bool.or_true, Bool.true_or, Bool.or_false, Bool.false_or, Bool.and_true, Bool.true_and, Bool.and_false, Bool.false_and, ↓fEq_row, ↓fEq_nats, ↓fEq_nats0, rng_nats, ↓fSum_row, ↓fSum_nats])
local macro_rules | `(tactic| walk_at "wp") => `(tactic| simp only [↓d_sSeq, ↓d_sAsg, ↓d_sExpr, ↓d_sRet, ↓d_sRetN, ↓d_sNext, ↓d_sAug, ↓d_sPar, ↓d_sBreak, ↓d_sCont, ↓d_wTB, ↓d_wTV, ↓d_wNotT, ↓d_wNotE, ↓d_w1, ↓d_w2, ↓d_wN, ↓d_wC, ↓d_wVar, ↓d_wMove, ↓d_wMut, ↓d_wSl, ↓d_oTmp, ↓d_oLoc, ↓d_aNil, ↓d_aCons, ↓d_aRev, res, ress, callA, takeA, nextR, backA, putB, ↓d_gN, ↓d_gTp, ↓d_gsCons, ↓d_gsNil, ↓d_gIx, canSet_eq, free_un, free_sh1, free_ow1, free_fr1, okR, okM, ↓d_pNone, ↓d_pInt, ↓d_fAdd, ↓d_fSub, ↓d_fMul, ↓d_fDiv, ↓d_fMod, ↓d_fPow, ↓d_fShr, ↓d_fShl, ↓d_fAnd, ↓d_fNeg, ↓d_fCmp, ↓d_fLt, ↓d_fLe, ↓d_fGt, ↓d_fGe, ↓d_fIs, ↓d_fIx, ↓d_fIxK, ↓d_fLen, ↓d_fLenK, ↓d_fAbs, ↓fIntOf_bl, ↓fIntOf_int, b2i_true, b2i_false, ↓d_fAddI, ↓d_fMulI, ↓d_fLst, ↓d_fTup, shs, fSeq, fZip, fRev, ↓d_mAppend, ↓d_mExtend, ↓d_mPop0, ↓d_mPopAt, D.isLst, locs, lend, lendI, lent, home, homeI, back1, wipeR, unwipe, ↓d_homeD, wYes, noX, Option.toList, List.getElem?_cons_zero, List.getElem?_cons_succ, List.set_cons_zero, List.set_cons_succ, List.length_cons, List.length_nil, List.headD_cons, List.headD_nil, List.tail_cons, List.tail_nil, List.reverse_cons, List.reverse_nil, List.nil_append, List.cons_append, Nat.zero_add, Bool.false_eq_true, if_true, if_false, ite_true, ite_false, List.contains_cons, List.contains_nil, initR, edOf, outsOf, slotR, List.map_cons, List.map_nil, List.replicate_succ, List.replicate_zero, List.append_nil, Nat.reduceAdd, Nat.reduceSub, Nat.reduceMul, FS_pm, FS_ar, Mo.own, sI, sD, nv, iv, ↓d_fListOf, ↓d_fTupOf, ↓d_parW1, ↓d_parW2, ↓d_sRaise, ↓sIf_eq, ↓wIf_eq, ↓wAndT_eq, ↓wOrT_eq, ↓wAndE_eq, ↓wOrE_eq, ↓sFor_eq, ↓wComp_eq, ↓wCall_eq, ↓sWhile_eq, ↓turnW_eq, brP_true, brP_false, true_and, and_true, pair_eta, atI_0, atI_1, atI_2, atI_3, natsD_cons, natsD_nil, decide_true, decide_false, Bool.not_true, Bool.not_false, Bool.true_xor, Bool.false_xor, Bool.xor_self, few_eq, few_lt, PowOk_iff, Nat.reduceLeDiff, Int.reduceLE, Int.reduceLT, Int.reduceAbs, Int.reduceMul, Int.reduceAdd, Int.reduceSub, Int.reduceNeg, Int.reduceDiv, Int.reduceMod, ↓fEq_int, ↓fEq_str, ↓fEq_bl, ↓fMax2, ↓fMin2, rowD, natsD_len, Nat.reducePow, Nat.reduceLT, Int.reduceToNat, Int.reducePow, and_self, Int.zero_add, List.getD_cons_zero, List.getD_cons_succ, ne_shfr, ne_owfr, ne_bofr, ne_lnfr, Int.toNat_natCast, Nat.one_mul, Nat.reduceBEq, reduceIte, ↓reduceIte, ↓wChain_eq, ↓d_fIsi, ↓d_fRevL, ↓d_fRgL, ↓d_fRgT, tyD, isiB, String.reduceBEq, Bool.or_true, Bool.true_or, Bool.or_false, Bool.false_or, Bool.and_true, Bool.true_and, Bool.and_false, Bool.false_and, ↓fEq_row, ↓fEq_nats, ↓fEq_nats0, rng_nats, ↓fSum_row, ↓fSum_nats])
theorem FS.vcX {α : Type} {ar : Nat} {pm : List Bool} {args : α → List R} {pre : α → Prop} {post : α → R → List D → Prop} {exc : α → Xn → List D → Prop} {n : Nat} {w : WS} (h : ∀ a, pre a → ∀ (Q : R → List D → Prop) (E : Xn → List D → Prop), (∀ r o, post a r o → Q r o) → (∀ x o, exc a x o → E x o) → w (initR n (args a)) (edOf (args a) Q E)) : VC (FS ar pm args pre post exc) n w := by
  rintro rs Q E ⟨a, rfl, hp, hQ, hE⟩
  exact h a hp Q E hQ hE
def isWhole : D → Bool
  | .int i => decide (0 ≤ i)
  | _ => false
def tyOk (d : D) : Bool := (tyD d).isSome
abbrev sp_is_whole : FSpec := FS (α := D) 1 [] (fun d => [(.sh, d)]) (fun d => tyOk d = true) (fun d r o => r = (.sh, .bl (isWhole d)) ∧ o = []) noExc
def w_is_whole (kl : Kl) : WS :=
(sRet (wAndE (w1 (fIsi "int") (oLoc 0)) (wAndE (wNotE (w1 (fIsi "bool") (oLoc 0))) (w2 fGe (oLoc 0) (oTmp (wC (.int 0)))))))
theorem vc_is_whole (kl : Kl) : VC sp_is_whole 1 (w_is_whole kl) := FS.vc fun d hp Q E hQ => by
  unfold w_is_whole
  cases d with
  | int i => walk_at "wp"; exact hQ _ _ ⟨rfl, rfl⟩
  | set ds => cases hp
  | obj a => cases hp
  | _ => walk_at "wp"; exact hQ _ _ ⟨rfl, rfl⟩
def areTwo (xs : List Nat) (a b : D) : Bool := match a, b with
  | .int i, .int j => decide (0 ≤ i) && (decide (0 ≤ j) && (!decide (i = j) && (decide (i < xs.length) && (decide (j < xs.length) && (decide (0 < xs.getD i.toNat 0) && decide (0 < xs.getD j.toNat 0))))))
  | _, _ => false
abbrev sp_are_two : FSpec := FS (α := List Nat × D × D) 3 [] (fun a => [(.sh, rowD a.1), (.sh, a.2.1), (.sh, a.2.2)]) (fun a => tyOk a.2.1 = true ∧ tyOk a.2.2 = true) (fun a r o => r = (.sh, .bl (areTwo a.1 a.2.1 a.2.2)) ∧ o = []) noExc
def w_are_two (kl : Kl) : WS :=
(sSeq (sIf (wOrT (wNotT (wTV (wCall sp_is_whole (aCons (oLoc 1) aNil)))) (wOrT (wNotT (wTV (wCall sp_is_whole (aCons (oLoc 2) aNil)))) (wTB (w2 (fEq false) (oLoc 1) (oLoc 2)))))
(sRet (wC (.bl false)))
sNext)
(sRet (wAndE (w2 fLt (oLoc 1) (oTmp (wN (fLenK kl) (aCons (oLoc 0) aNil)))) (wAndE (w2 fLt (oLoc 2) (oTmp (wN (fLenK kl) (aCons (oLoc 0) aNil)))) (wAndE (w2 fGt (oTmp (w2 (fIxK kl) (oLoc 0) (oLoc 1))) (oTmp (wC (.int 0)))) (w2 fGt (oTmp (w2 (fIxK kl) (oLoc 0) (oLoc 2))) (oTmp (wC (.int 0)))))))))
theorem isWhole_int {d : D} (h : isWhole d = true) : ∃ n : Nat, d = .int n := by
  cases d with
  | int i =>
    have h : 0 ≤ i := by simpa [isWhole] using h
    exact ⟨i.toNat, by rw [Int.toNat_of_nonneg h]⟩
  | _ => cases h
theorem areTwo_of {xs : List Nat} {a b : D} (h : areTwo xs a b = true) : ∃ i j : Nat, a = .int i ∧ b = .int j ∧ i ≠ j ∧ i < xs.length ∧ j < xs.length ∧ 0 < xs.getD i 0 ∧ 0 < xs.getD j 0 := by
  unfold areTwo at h
  split at h
  · rename_i i j
    simp only [Bool.and_eq_true, decide_eq_true_eq, Bool.not_eq_true', decide_eq_false_iff_not] at h
    obtain ⟨h1, h2, h3, h4, h5, h6, h7⟩ := h
    refine ⟨i.toNat, j.toNat, by rw [Int.toNat_of_nonneg h1], by rw [Int.toNat_of_nonneg h2], by omega, by omega, by omega, h6, h7⟩
  · cases h
theorem getD_get {xs : List Nat} {i : Nat} (h : i < xs.length) : xs[i]? = some (xs.getD i 0) := by simp [h]
theorem vc_are_two (kl : Kl) : VC sp_are_two 3 (w_are_two kl) := FS.vc fun ⟨xs, a, b⟩ hp Q E hQ => by
  obtain ⟨ha, hb⟩ := hp
  simp only at ha hb hQ
  unfold w_are_two
  walk_at "wp"
  refine call0 a rfl rfl ha ?_
  rintro _ _ ⟨rfl, rfl⟩
  walk_at "wp"
  cases wa : isWhole a with
  | false =>
    walk_at "wp"
    refine hQ _ _ ⟨?_, rfl⟩
    have : areTwo xs a b = false := by
      unfold areTwo
      cases a with
      | int i => cases b <;> first | rfl | (have wa : decide (0 ≤ i) = false := wa; simp only [wa]; rfl)
      | _ => rfl
    rw [this]
  | true =>
    obtain ⟨i, rfl⟩ := isWhole_int wa
    walk_at "wp"
    refine call0 b rfl rfl hb ?_
    rintro _ _ ⟨rfl, rfl⟩
    walk_at "wp"
    cases wb : isWhole b with
    | false =>
      walk_at "wp"
      refine hQ _ _ ⟨?_, rfl⟩
      have : areTwo xs (.int i) b = false := by
        unfold areTwo
        cases b with
        | int j => have wb : decide (0 ≤ j) = false := wb; simp only [wb]; simp
        | _ => rfl
      rw [this]
    | true =>
      obtain ⟨j, rfl⟩ := isWhole_int wb
      have e : areTwo xs (.int i) (.int j) = (!decide ((i : Int) = (j : Int)) && (decide ((i : Int) < (xs.length : Int)) && (decide ((j : Int) < (xs.length : Int)) && (decide (0 < xs.getD i 0) && decide (0 < xs.getD j 0))))) := by
        simp [areTwo]
      rw [e] at hQ
      walk_at "wp"
      refine brD (fun h => ?_) (fun h => ?_)
      · walk_at "wp"
        refine hQ _ _ ⟨?_, rfl⟩
        simp [h]
      walk_at "wp"
      refine brD (fun h1 => ?_) (fun h1 => ?_)
      · walk_at "wp"
        refine brD (fun h2 => ?_) (fun h2 => ?_)
        · have g1 := atI_nats (getD_get (xs := xs) (i := i) (by omega))
          have g2 := atI_nats (getD_get (xs := xs) (i := j) (by omega))
          simp only [↓d_sSeq, ↓d_sAsg, ↓d_sExpr, ↓d_sRet, ↓d_sRetN, ↓d_sNext, ↓d_sAug, ↓d_sPar, ↓d_sBreak, ↓d_sCont, ↓d_wTB, ↓d_wTV, ↓d_wNotT, ↓d_wNotE, ↓d_w1, ↓d_w2, ↓d_wN, ↓d_wC, ↓d_wVar, ↓d_wMove, ↓d_wMut, ↓d_wSl, ↓d_oTmp, ↓d_oLoc, ↓d_aNil, ↓d_aCons, ↓d_aRev, res, ress, callA, takeA, nextR, backA, putB, ↓d_gN, ↓d_gTp, ↓d_gsCons, ↓d_gsNil, ↓d_gIx, canSet_eq, free_un, free_sh1, free_ow1, free_fr1, okR, okM, ↓d_pNone, ↓d_pInt, ↓d_fAdd, ↓d_fSub, ↓d_fMul, ↓d_fDiv, ↓d_fMod, ↓d_fPow, ↓d_fShr, ↓d_fShl, ↓d_fAnd, ↓d_fNeg, ↓d_fCmp, ↓d_fLt, ↓d_fLe, ↓d_fGt, ↓d_fGe, ↓d_fIs, ↓d_fIx, ↓d_fIxK, ↓d_fLen, ↓d_fLenK, ↓d_fAbs, ↓fIntOf_bl, ↓fIntOf_int, b2i_true, b2i_false, ↓d_fAddI, ↓d_fMulI, ↓d_fLst, ↓d_fTup, shs, fSeq, fZip, fRev, ↓d_mAppend, ↓d_mExtend, ↓d_mPop0, ↓d_mPopAt, D.isLst, locs, lend, lendI, lent, home, homeI, back1, wipeR, unwipe, ↓d_homeD, wYes, noX, Option.toList, List.getElem?_cons_zero, List.getElem?_cons_succ, List.set_cons_zero, List.set_cons_succ, List.length_cons, List.length_nil, List.headD_cons, List.headD_nil, List.tail_cons, List.tail_nil, List.reverse_cons, List.reverse_nil, List.nil_append, List.cons_append, Nat.zero_add, Bool.false_eq_true, if_true, if_false, ite_true, ite_false, List.contains_cons, List.contains_nil, initR, edOf, outsOf, slotR, List.map_cons, List.map_nil, List.replicate_succ, List.replicate_zero, List.append_nil, Nat.reduceAdd, Nat.reduceSub, Nat.reduceMul, FS_pm, FS_ar, Mo.own, sI, sD, nv, iv, ↓d_fListOf, ↓d_fTupOf, ↓d_parW1, ↓d_parW2, ↓d_sRaise, ↓sIf_eq, ↓wIf_eq, ↓wAndT_eq, ↓wOrT_eq, ↓wAndE_eq, ↓wOrE_eq, ↓sFor_eq, ↓wComp_eq, ↓wCall_eq, ↓sWhile_eq, ↓turnW_eq, brP_true, brP_false, true_and, and_true, pair_eta, atI_0, atI_1, atI_2, atI_3, natsD_cons, natsD_nil, decide_true, decide_false, Bool.not_true, Bool.not_false, Bool.true_xor, Bool.false_xor, Bool.xor_self, few_eq, few_lt, PowOk_iff, Nat.reduceLeDiff, Int.reduceLE, Int.reduceLT, Int.reduceAbs, Int.reduceMul, Int.reduceAdd, Int.reduceSub, Int.reduceNeg, Int.reduceDiv, Int.reduceMod, ↓fEq_int, ↓fEq_str, ↓fEq_bl, ↓fMax2, ↓fMin2, rowD, natsD_len, Nat.reducePow, Nat.reduceLT, Int.reduceToNat, Int.reducePow, and_self, Int.zero_add, List.getD_cons_zero, List.getD_cons_succ, ne_shfr, ne_owfr, ne_bofr, ne_lnfr, Int.toNat_natCast, Nat.one_mul, Nat.reduceBEq, reduceIte, ↓reduceIte, ↓wChain_eq, ↓d_fIsi, ↓d_fRevL, ↓d_fRgL, ↓d_fRgT, tyD, isiB, String.reduceBEq, Bool.or_true, Bool.true_or, Bool.or_false, Bool.false_or, Bool.and_true, Bool.true_and, Bool.and_false, Bool.false_and, ↓fEq_row, ↓fEq_nats, ↓fEq_nats0, rng_nats, ↓fSum_row, ↓fSum_nats, g1]
          refine brD (fun h3 => ?_) (fun h3 => ?_)
          · simp only [↓d_sSeq, ↓d_sAsg, ↓d_sExpr, ↓d_sRet, ↓d_sRetN, ↓d_sNext, ↓d_sAug, ↓d_sPar, ↓d_sBreak, ↓d_sCont, ↓d_wTB, ↓d_wTV, ↓d_wNotT, ↓d_wNotE, ↓d_w1, ↓d_w2, ↓d_wN, ↓d_wC, ↓d_wVar, ↓d_wMove, ↓d_wMut, ↓d_wSl, ↓d_oTmp, ↓d_oLoc, ↓d_aNil, ↓d_aCons, ↓d_aRev, res, ress, callA, takeA, nextR, backA, putB, ↓d_gN, ↓d_gTp, ↓d_gsCons, ↓d_gsNil, ↓d_gIx, canSet_eq, free_un, free_sh1, free_ow1, free_fr1, okR, okM, ↓d_pNone, ↓d_pInt, ↓d_fAdd, ↓d_fSub, ↓d_fMul, ↓d_fDiv, ↓d_fMod, ↓d_fPow, ↓d_fShr, ↓d_fShl, ↓d_fAnd, ↓d_fNeg, ↓d_fCmp, ↓d_fLt, ↓d_fLe, ↓d_fGt, ↓d_fGe, ↓d_fIs, ↓d_fIx, ↓d_fIxK, ↓d_fLen, ↓d_fLenK, ↓d_fAbs, ↓fIntOf_bl, ↓fIntOf_int, b2i_true, b2i_false, ↓d_fAddI, ↓d_fMulI, ↓d_fLst, ↓d_fTup, shs, fSeq, fZip, fRev, ↓d_mAppend, ↓d_mExtend, ↓d_mPop0, ↓d_mPopAt, D.isLst, locs, lend, lendI, lent, home, homeI, back1, wipeR, unwipe, ↓d_homeD, wYes, noX, Option.toList, List.getElem?_cons_zero, List.getElem?_cons_succ, List.set_cons_zero, List.set_cons_succ, List.length_cons, List.length_nil, List.headD_cons, List.headD_nil, List.tail_cons, List.tail_nil, List.reverse_cons, List.reverse_nil, List.nil_append, List.cons_append, Nat.zero_add, Bool.false_eq_true, if_true, if_false, ite_true, ite_false, List.contains_cons, List.contains_nil, initR, edOf, outsOf, slotR, List.map_cons, List.map_nil, List.replicate_succ, List.replicate_zero, List.append_nil, Nat.reduceAdd, Nat.reduceSub, Nat.reduceMul, FS_pm, FS_ar, Mo.own, sI, sD, nv, iv, ↓d_fListOf, ↓d_fTupOf, ↓d_parW1, ↓d_parW2, ↓d_sRaise, ↓sIf_eq, ↓wIf_eq, ↓wAndT_eq, ↓wOrT_eq, ↓wAndE_eq, ↓wOrE_eq, ↓sFor_eq, ↓wComp_eq, ↓wCall_eq, ↓sWhile_eq, ↓turnW_eq, brP_true, brP_false, true_and, and_true, pair_eta, atI_0, atI_1, atI_2, atI_3, natsD_cons, natsD_nil, decide_true, decide_false, Bool.not_true, Bool.not_false, Bool.true_xor, Bool.false_xor, Bool.xor_self, few_eq, few_lt, PowOk_iff, Nat.reduceLeDiff, Int.reduceLE, Int.reduceLT, Int.reduceAbs, Int.reduceMul, Int.reduceAdd, Int.reduceSub, Int.reduceNeg, Int.reduceDiv, Int.reduceMod, ↓fEq_int, ↓fEq_str, ↓fEq_bl, ↓fMax2, ↓fMin2, rowD, natsD_len, Nat.reducePow, Nat.reduceLT, Int.reduceToNat, Int.reducePow, and_self, Int.zero_add, List.getD_cons_zero, List.getD_cons_succ, ne_shfr, ne_owfr, ne_bofr, ne_lnfr, Int.toNat_natCast, Nat.one_mul, Nat.reduceBEq, reduceIte, ↓reduceIte, ↓wChain_eq, ↓d_fIsi, ↓d_fRevL, ↓d_fRgL, ↓d_fRgT, tyD, isiB, String.reduceBEq, Bool.or_true, Bool.true_or, Bool.or_false, Bool.false_or, Bool.and_true, Bool.true_and, Bool.and_false, Bool.false_and, ↓fEq_row, ↓fEq_nats, ↓fEq_nats0, rng_nats, ↓fSum_row, ↓fSum_nats, g2]
            refine hQ _ _ ⟨?_, rfl⟩
            have h3 : 0 < xs.getD i 0 := by omega
            simp only [h, h1, h2, h3, decide_true, decide_false, Bool.not_false, Bool.true_and]
            congr 3
            exact propext ⟨fun h => by omega, fun h => by omega⟩
          · walk_at "wp"
            refine hQ _ _ ⟨?_, rfl⟩
            have h3 : ¬ 0 < xs.getD i 0 := by omega
            simp only [h3, decide_false, Bool.false_and, Bool.and_false]
        · walk_at "wp"
          refine hQ _ _ ⟨?_, rfl⟩
          simp only [h2, decide_false, Bool.false_and, Bool.and_false]
      · walk_at "wp"
        refine hQ _ _ ⟨?_, rfl⟩
        simp only [h1, decide_false, Bool.false_and, Bool.and_false]
theorem mod_mul_pow (a b e n : Nat) : (a % n * (b % n) ^ e) % n = (a * b ^ e) % n := by
  rw [Nat.mul_mod, Nat.mod_mod, Nat.pow_mod, Nat.mod_mod, ← Nat.pow_mod, ← Nat.mul_mod]
theorem pow_half {k : Nat} (b : Nat) : (b * b) ^ (k / 2) * b ^ (k % 2) = b ^ k := by
  rw [← Nat.pow_two, ← Nat.pow_mul, ← Nat.pow_add]
  congr 1
  omega
abbrev sp_two_to : FSpec := FS (α := Nat × Nat) 2 [] (fun a => [nv a.1, nv a.2]) (fun a => 0 < a.2 ∧ a.2 < 2 ^ 240) (fun a r o => r = nv (2 ^ a.1 % a.2) ∧ o = []) noExc
def b1_two_to (kl : Kl) : WS :=
(sSeq (sIf (wTB (w2 (fEq false) (oTmp (w2 fMod (oLoc 0) (oTmp (wC (.int 2))))) (oTmp (wC (.int 1)))))
(sAsg (w2 fMod (oTmp (w2 fMul (oLoc 2) (oLoc 3))) (oLoc 1)) (gN 2))
sNext)
(sSeq (sAsg (w2 fMod (oTmp (w2 fMul (oLoc 3) (oLoc 3))) (oLoc 1)) (gN 3))
(sAug 0 fDiv (oTmp (wC (.int 2))))))
def w_two_to (kl : Kl) : WS :=
(sSeq (sPar [2, 3] (aCons (oTmp (w2 fMod (oTmp (wC (.int 1))) (oLoc 1))) (aCons (oTmp (w2 fMod (oTmp (wC (.int 2))) (oLoc 1))) aNil)))
(sSeq (sWhile (wTB (w2 fGt (oLoc 0) (oTmp (wC (.int 0)))))
(b1_two_to kl))
(sRet (wMove 2))))
theorem vc_two_to (kl : Kl) : VC sp_two_to 4 (w_two_to kl) := FS.vc fun ⟨K, n⟩ hp Q E hQ => by
  obtain ⟨hn, hn2⟩ := hp
  simp only at hn hn2 hQ
  unfold w_two_to
  walk_at "wp"
  have e1 : ((1 : Int) % (n : Int)) = ((1 % n : Nat) : Int) := by simp
  have e2 : ((2 : Int) % (n : Int)) = ((2 % n : Nat) : Int) := by simp
  rw [e1, e2]
  refine ⟨by omega, by omega, ?_⟩
  refine whileP (α := Nat × Nat × Nat) (fun a => [sI a.1, sI n, sI a.2.1, sI a.2.2]) (fun a => (a.2.1 * a.2.2 ^ a.1) % n = 2 ^ K % n ∧ a.2.1 < n ∧ a.2.2 < n) (fun a => a.1) (K, 1 % n, 2 % n) rfl ⟨?_, Nat.mod_lt _ hn, Nat.mod_lt _ hn⟩ ?_
  · show (1 % n * (2 % n) ^ K) % n = 2 ^ K % n
    rw [mod_mul_pow, Nat.one_mul]
  rintro ⟨k, f, g⟩ ⟨h1, h2, h3⟩ N hN0
  simp only at h1 h2 h3
  walk_at "wp"
  refine brD (fun h => ?_) (fun h => ?_)
  · have hg : ((g : Int) * (g : Int) % (n : Int)) = ((g * g % n : Nat) : Int) := by simp
    have hf : ((f : Int) * (g : Int) % (n : Int)) = ((f * g % n : Nat) : Int) := by simp
    have hk : ((k : Int) / 2) = ((k / 2 : Nat) : Int) := by simp
    unfold b1_two_to
    walk_at "wk"
    refine seqP fun M hN => ?_
    walk_at "wp"
    refine brD (fun ho => ?_) (fun ho => ?_)
    · simp only [↓d_sSeq, ↓d_sAsg, ↓d_sExpr, ↓d_sRet, ↓d_sRetN, ↓d_sNext, ↓d_sAug, ↓d_sPar, ↓d_sBreak, ↓d_sCont, ↓d_wTB, ↓d_wTV, ↓d_wNotT, ↓d_wNotE, ↓d_w1, ↓d_w2, ↓d_wN, ↓d_wC, ↓d_wVar, ↓d_wMove, ↓d_wMut, ↓d_wSl, ↓d_oTmp, ↓d_oLoc, ↓d_aNil, ↓d_aCons, ↓d_aRev, res, ress, callA, takeA, nextR, backA, putB, ↓d_gN, ↓d_gTp, ↓d_gsCons, ↓d_gsNil, ↓d_gIx, canSet_eq, free_un, free_sh1, free_ow1, free_fr1, okR, okM, ↓d_pNone, ↓d_pInt, ↓d_fAdd, ↓d_fSub, ↓d_fMul, ↓d_fDiv, ↓d_fMod, ↓d_fPow, ↓d_fShr, ↓d_fShl, ↓d_fAnd, ↓d_fNeg, ↓d_fCmp, ↓d_fLt, ↓d_fLe, ↓d_fGt, ↓d_fGe, ↓d_fIs, ↓d_fIx, ↓d_fIxK, ↓d_fLen, ↓d_fLenK, ↓d_fAbs, ↓fIntOf_bl, ↓fIntOf_int, b2i_true, b2i_false, ↓d_fAddI, ↓d_fMulI, ↓d_fLst, ↓d_fTup, shs, fSeq, fZip, fRev, ↓d_mAppend, ↓d_mExtend, ↓d_mPop0, ↓d_mPopAt, D.isLst, locs, lend, lendI, lent, home, homeI, back1, wipeR, unwipe, ↓d_homeD, wYes, noX, Option.toList, List.getElem?_cons_zero, List.getElem?_cons_succ, List.set_cons_zero, List.set_cons_succ, List.length_cons, List.length_nil, List.headD_cons, List.headD_nil, List.tail_cons, List.tail_nil, List.reverse_cons, List.reverse_nil, List.nil_append, List.cons_append, Nat.zero_add, Bool.false_eq_true, if_true, if_false, ite_true, ite_false, List.contains_cons, List.contains_nil, initR, edOf, outsOf, slotR, List.map_cons, List.map_nil, List.replicate_succ, List.replicate_zero, List.append_nil, Nat.reduceAdd, Nat.reduceSub, Nat.reduceMul, FS_pm, FS_ar, Mo.own, sI, sD, nv, iv, ↓d_fListOf, ↓d_fTupOf, ↓d_parW1, ↓d_parW2, ↓d_sRaise, ↓sIf_eq, ↓wIf_eq, ↓wAndT_eq, ↓wOrT_eq, ↓wAndE_eq, ↓wOrE_eq, ↓sFor_eq, ↓wComp_eq, ↓wCall_eq, ↓sWhile_eq, ↓turnW_eq, brP_true, brP_false, true_and, and_true, pair_eta, atI_0, atI_1, atI_2, atI_3, natsD_cons, natsD_nil, decide_true, decide_false, Bool.not_true, Bool.not_false, Bool.true_xor, Bool.false_xor, Bool.xor_self, few_eq, few_lt, PowOk_iff, Nat.reduceLeDiff, Int.reduceLE, Int.reduceLT, Int.reduceAbs, Int.reduceMul, Int.reduceAdd, Int.reduceSub, Int.reduceNeg, Int.reduceDiv, Int.reduceMod, ↓fEq_int, ↓fEq_str, ↓fEq_bl, ↓fMax2, ↓fMin2, rowD, natsD_len, Nat.reducePow, Nat.reduceLT, Int.reduceToNat, Int.reducePow, and_self, Int.zero_add, List.getD_cons_zero, List.getD_cons_succ, ne_shfr, ne_owfr, ne_bofr, ne_lnfr, Int.toNat_natCast, Nat.one_mul, Nat.reduceBEq, reduceIte, ↓reduceIte, ↓wChain_eq, ↓d_fIsi, ↓d_fRevL, ↓d_fRgL, ↓d_fRgT, tyD, isiB, String.reduceBEq, Bool.or_true, Bool.true_or, Bool.or_false, Bool.false_or, Bool.and_true, Bool.true_and, Bool.and_false, Bool.false_and, ↓fEq_row, ↓fEq_nats, ↓fEq_nats0, rng_nats, ↓fSum_row, ↓fSum_nats, hf]
      refine ⟨mulOkI (by omega), by omega, hN _ ?_⟩
      clear hN M
      simp only [↓d_sSeq, ↓d_sAsg, ↓d_sExpr, ↓d_sRet, ↓d_sRetN, ↓d_sNext, ↓d_sAug, ↓d_sPar, ↓d_sBreak, ↓d_sCont, ↓d_wTB, ↓d_wTV, ↓d_wNotT, ↓d_wNotE, ↓d_w1, ↓d_w2, ↓d_wN, ↓d_wC, ↓d_wVar, ↓d_wMove, ↓d_wMut, ↓d_wSl, ↓d_oTmp, ↓d_oLoc, ↓d_aNil, ↓d_aCons, ↓d_aRev, res, ress, callA, takeA, nextR, backA, putB, ↓d_gN, ↓d_gTp, ↓d_gsCons, ↓d_gsNil, ↓d_gIx, canSet_eq, free_un, free_sh1, free_ow1, free_fr1, okR, okM, ↓d_pNone, ↓d_pInt, ↓d_fAdd, ↓d_fSub, ↓d_fMul, ↓d_fDiv, ↓d_fMod, ↓d_fPow, ↓d_fShr, ↓d_fShl, ↓d_fAnd, ↓d_fNeg, ↓d_fCmp, ↓d_fLt, ↓d_fLe, ↓d_fGt, ↓d_fGe, ↓d_fIs, ↓d_fIx, ↓d_fIxK, ↓d_fLen, ↓d_fLenK, ↓d_fAbs, ↓fIntOf_bl, ↓fIntOf_int, b2i_true, b2i_false, ↓d_fAddI, ↓d_fMulI, ↓d_fLst, ↓d_fTup, shs, fSeq, fZip, fRev, ↓d_mAppend, ↓d_mExtend, ↓d_mPop0, ↓d_mPopAt, D.isLst, locs, lend, lendI, lent, home, homeI, back1, wipeR, unwipe, ↓d_homeD, wYes, noX, Option.toList, List.getElem?_cons_zero, List.getElem?_cons_succ, List.set_cons_zero, List.set_cons_succ, List.length_cons, List.length_nil, List.headD_cons, List.headD_nil, List.tail_cons, List.tail_nil, List.reverse_cons, List.reverse_nil, List.nil_append, List.cons_append, Nat.zero_add, Bool.false_eq_true, if_true, if_false, ite_true, ite_false, List.contains_cons, List.contains_nil, initR, edOf, outsOf, slotR, List.map_cons, List.map_nil, List.replicate_succ, List.replicate_zero, List.append_nil, Nat.reduceAdd, Nat.reduceSub, Nat.reduceMul, FS_pm, FS_ar, Mo.own, sI, sD, nv, iv, ↓d_fListOf, ↓d_fTupOf, ↓d_parW1, ↓d_parW2, ↓d_sRaise, ↓sIf_eq, ↓wIf_eq, ↓wAndT_eq, ↓wOrT_eq, ↓wAndE_eq, ↓wOrE_eq, ↓sFor_eq, ↓wComp_eq, ↓wCall_eq, ↓sWhile_eq, ↓turnW_eq, brP_true, brP_false, true_and, and_true, pair_eta, atI_0, atI_1, atI_2, atI_3, natsD_cons, natsD_nil, decide_true, decide_false, Bool.not_true, Bool.not_false, Bool.true_xor, Bool.false_xor, Bool.xor_self, few_eq, few_lt, PowOk_iff, Nat.reduceLeDiff, Int.reduceLE, Int.reduceLT, Int.reduceAbs, Int.reduceMul, Int.reduceAdd, Int.reduceSub, Int.reduceNeg, Int.reduceDiv, Int.reduceMod, ↓fEq_int, ↓fEq_str, ↓fEq_bl, ↓fMax2, ↓fMin2, rowD, natsD_len, Nat.reducePow, Nat.reduceLT, Int.reduceToNat, Int.reducePow, and_self, Int.zero_add, List.getD_cons_zero, List.getD_cons_succ, ne_shfr, ne_owfr, ne_bofr, ne_lnfr, Int.toNat_natCast, Nat.one_mul, Nat.reduceBEq, reduceIte, ↓reduceIte, ↓wChain_eq, ↓d_fIsi, ↓d_fRevL, ↓d_fRgL, ↓d_fRgT, tyD, isiB, String.reduceBEq, Bool.or_true, Bool.true_or, Bool.or_false, Bool.false_or, Bool.and_true, Bool.true_and, Bool.and_false, Bool.false_and, ↓fEq_row, ↓fEq_nats, ↓fEq_nats0, rng_nats, ↓fSum_row, ↓fSum_nats, hg, hk]
      refine ⟨mulOkI (by omega), by omega, divOkI (by decide), hN0 (k / 2, f * g % n, g * g % n) ⟨?_, Nat.mod_lt _ hn, Nat.mod_lt _ hn⟩ (by simp only; omega)⟩
      show (f * g % n * (g * g % n) ^ (k / 2)) % n = 2 ^ K % n
      rw [mod_mul_pow, ← h1, Nat.mul_assoc, Nat.mul_comm g, ← pow_half (k := k) g]
      have : k % 2 = 1 := by omega
      rw [this, Nat.pow_one]
    · refine hN _ ?_
      clear hN M
      simp only [↓d_sSeq, ↓d_sAsg, ↓d_sExpr, ↓d_sRet, ↓d_sRetN, ↓d_sNext, ↓d_sAug, ↓d_sPar, ↓d_sBreak, ↓d_sCont, ↓d_wTB, ↓d_wTV, ↓d_wNotT, ↓d_wNotE, ↓d_w1, ↓d_w2, ↓d_wN, ↓d_wC, ↓d_wVar, ↓d_wMove, ↓d_wMut, ↓d_wSl, ↓d_oTmp, ↓d_oLoc, ↓d_aNil, ↓d_aCons, ↓d_aRev, res, ress, callA, takeA, nextR, backA, putB, ↓d_gN, ↓d_gTp, ↓d_gsCons, ↓d_gsNil, ↓d_gIx, canSet_eq, free_un, free_sh1, free_ow1, free_fr1, okR, okM, ↓d_pNone, ↓d_pInt, ↓d_fAdd, ↓d_fSub, ↓d_fMul, ↓d_fDiv, ↓d_fMod, ↓d_fPow, ↓d_fShr, ↓d_fShl, ↓d_fAnd, ↓d_fNeg, ↓d_fCmp, ↓d_fLt, ↓d_fLe, ↓d_fGt, ↓d_fGe, ↓d_fIs, ↓d_fIx, ↓d_fIxK, ↓d_fLen, ↓d_fLenK, ↓d_fAbs, ↓fIntOf_bl, ↓fIntOf_int, b2i_true, b2i_false, ↓d_fAddI, ↓d_fMulI, ↓d_fLst, ↓d_fTup, shs, fSeq, fZip, fRev, ↓d_mAppend, ↓d_mExtend, ↓d_mPop0, ↓d_mPopAt, D.isLst, locs, lend, lendI, lent, home, homeI, back1, wipeR, unwipe, ↓d_homeD, wYes, noX, Option.toList, List.getElem?_cons_zero, List.getElem?_cons_succ, List.set_cons_zero, List.set_cons_succ, List.length_cons, List.length_nil, List.headD_cons, List.headD_nil, List.tail_cons, List.tail_nil, List.reverse_cons, List.reverse_nil, List.nil_append, List.cons_append, Nat.zero_add, Bool.false_eq_true, if_true, if_false, ite_true, ite_false, List.contains_cons, List.contains_nil, initR, edOf, outsOf, slotR, List.map_cons, List.map_nil, List.replicate_succ, List.replicate_zero, List.append_nil, Nat.reduceAdd, Nat.reduceSub, Nat.reduceMul, FS_pm, FS_ar, Mo.own, sI, sD, nv, iv, ↓d_fListOf, ↓d_fTupOf, ↓d_parW1, ↓d_parW2, ↓d_sRaise, ↓sIf_eq, ↓wIf_eq, ↓wAndT_eq, ↓wOrT_eq, ↓wAndE_eq, ↓wOrE_eq, ↓sFor_eq, ↓wComp_eq, ↓wCall_eq, ↓sWhile_eq, ↓turnW_eq, brP_true, brP_false, true_and, and_true, pair_eta, atI_0, atI_1, atI_2, atI_3, natsD_cons, natsD_nil, decide_true, decide_false, Bool.not_true, Bool.not_false, Bool.true_xor, Bool.false_xor, Bool.xor_self, few_eq, few_lt, PowOk_iff, Nat.reduceLeDiff, Int.reduceLE, Int.reduceLT, Int.reduceAbs, Int.reduceMul, Int.reduceAdd, Int.reduceSub, Int.reduceNeg, Int.reduceDiv, Int.reduceMod, ↓fEq_int, ↓fEq_str, ↓fEq_bl, ↓fMax2, ↓fMin2, rowD, natsD_len, Nat.reducePow, Nat.reduceLT, Int.reduceToNat, Int.reducePow, and_self, Int.zero_add, List.getD_cons_zero, List.getD_cons_succ, ne_shfr, ne_owfr, ne_bofr, ne_lnfr, Int.toNat_natCast, Nat.one_mul, Nat.reduceBEq, reduceIte, ↓reduceIte, ↓wChain_eq, ↓d_fIsi, ↓d_fRevL, ↓d_fRgL, ↓d_fRgT, tyD, isiB, String.reduceBEq, Bool.or_true, Bool.true_or, Bool.or_false, Bool.false_or, Bool.and_true, Bool.true_and, Bool.and_false, Bool.false_and, ↓fEq_row, ↓fEq_nats, ↓fEq_nats0, rng_nats, ↓fSum_row, ↓fSum_nats, hg, hk]
      refine ⟨mulOkI (by omega), by omega, divOkI (by decide), hN0 (k / 2, f, g * g % n) ⟨?_, h2, Nat.mod_lt _ hn⟩ (by simp only; omega)⟩
      show (f * (g * g % n) ^ (k / 2)) % n = 2 ^ K % n
      have hf2 : f = f % n := (Nat.mod_eq_of_lt h2).symm
      rw [hf2, mod_mul_pow, ← h1, ← pow_half (k := k) g]
      have : k % 2 = 0 := by omega
      rw [this, Nat.pow_zero, Nat.mul_one]
  · have hk : k = 0 := by omega
    subst hk
    walk_at "wp"
    refine hQ _ _ ⟨?_, rfl⟩
    rw [Nat.pow_zero, Nat.mul_one, Nat.mod_eq_of_lt h2] at h1
    rw [h1]; rfl
end G
end
section
set_option Elab.async false
set_option linter.all false
set_option maxRecDepth 100000
set_option maxHeartbeats 1000000
set_option exponentiation.threshold 100000
namespace G
open PySem PySem.Spec L2
local macro_rules | `(tactic| walk_at "wk") => `(tactic| simp only [↓sSeq_eq, ↓d_sAsg, ↓d_sExpr, ↓d_sRet, ↓d_sRetN, ↓d_sNext, ↓d_sAug, ↓d_sPar, ↓d_sBreak, ↓d_sCont, ↓d_wTB, ↓d_wTV, ↓d_wNotT, ↓d_wNotE, ↓d_w1, ↓d_w2, ↓d_wN, ↓d_wC, ↓d_wVar, ↓d_wMove, ↓d_wMut, ↓d_wSl, ↓d_oTmp, ↓d_oLoc, ↓d_aNil, ↓d_aCons, ↓d_aRev, res, ress, callA, takeA, nextR, backA, putB, ↓d_gN, ↓d_gTp, ↓d_gsCons, ↓d_gsNil, ↓d_gIx, canSet_eq, free_un, free_sh1, free_ow1, free_fr1, okR, okM, ↓d_pNone, ↓d_pInt, ↓d_fAdd, ↓d_fSub, ↓d_fMul, ↓d_fDiv, ↓d_fMod, ↓d_fPow, ↓d_fShr, ↓d_fShl, ↓d_fAnd, ↓d_fNeg, ↓d_fCmp, ↓d_fLt, ↓d_fLe, ↓d_fGt, ↓d_fGe, ↓d_fIs, ↓d_fIx, ↓d_fIxK, ↓d_fLen, ↓d_fLenK, ↓d_fAbs, ↓fIntOf_bl, ↓fIntOf_int, b2i_true, b2i_false, ↓d_fAddI, ↓d_fMulI, ↓d_fLst, ↓d_fTup, shs, fSeq, fZip, fRev, ↓d_mAppend, ↓d_mExtend, ↓d_mPop0, ↓d_mPopAt, D.isLst, locs, lend, lendI, lent, home, homeI, back1, wipeR, unwipe, ↓d_homeD, wYes, noX, Option.toList, List.getElem?_cons_zero, List.getElem?_cons_succ, List.set_cons_zero, List.set_cons_succ, List.length_cons, List.length_nil, List.headD_cons, List.headD_nil, List.tail_cons, List.tail_nil, List.reverse_cons, List.reverse_nil, List.nil_append, List.cons_append, Nat.zero_add, Bool.false_eq_true, if_true, if_false, ite_true, ite_false, List.contains_cons, List.contains_nil, initR, edOf, outsOf, slotR, List.map_cons, List.map_nil, List.replicate_succ, List.replicate_zero, List.append_nil, Nat.reduceAdd, Nat.reduceSub, Nat.reduceMul, FS_pm, FS_ar, Mo.own, sI, sD, nv, iv, ↓d_fListOf, ↓d_fTupOf, ↓d_parW1, ↓d_parW2, ↓d_sRaise, ↓sIf_eq, ↓wIf_eq, ↓wAndT_eq, ↓wOrT_eq, ↓wAndE_eq, ↓wOrE_eq, ↓sFor_eq, ↓wComp_eq, ↓wCall_eq, ↓sWhile_eq, ↓turnW_eq, brP_true, brP_false, true_and, and_true, pair_eta, atI_0, atI_1, atI_2, atI_3, natsD_cons, natsD_nil, decide_true, decide_false, Bool.not_true, Bool.not_false, Bool.true_xor, Bool.false_xor, Bool.xor_self, few_eq, few_lt, PowOk_iff, Nat.reduceLeDiff, Int.reduceLE, Int.reduceLT, Int.reduceAbs, Int.reduceMul, Int.reduceAdd, Int.reduceSub, Int.reduceNeg, Int.reduceDiv, Int.reduceMod, ↓fEq_int, ↓fEq_str, ↓fEq_bl, ↓fMax2, ↓fMin2, rowD, natsD_len, Nat.reducePow, Nat.reduceLT, Int.reduceToNat, Int.reducePow, and_self, Int.zero_add, List.getD_cons_zero, List.getD_cons_succ, ne_shfr, ne_owfr, ne_bofr, ne_lnfr, Int.toNat_natCast, Nat.one_mul, Nat.reduceBEq, reduceIte, ↓reduceIte, ↓wChain_eq, ↓d_fIsi, ↓d_fRevL, ↓d_fRgL, ↓d_fRgT, tyD, isiB, String.reduceBEq, Bool.or_true, Bool.true_or, Bool.or_false, Bool.false_or, Bool.and_true, Bool.true_and, Bool.and_false, Bool.false_and, ↓fEq_row, ↓fEq_nats, ↓fEq_nats0, rng_nats, ↓fSum_row, ↓fSum_nats])
local macro_rules | `(tactic| walk_at "wp") => `(tactic| simp only [↓d_sSeq, ↓d_sAsg, ↓d_sExpr, ↓d_sRet, ↓d_sRetN, ↓d_sNext, ↓d_sAug, ↓d_sPar, ↓d_sBreak, ↓d_sCont, ↓d_wTB, ↓d_wTV, ↓d_wNotT, ↓d_wNotE, ↓d_w1, ↓d_w2, ↓d_wN, ↓d_wC, ↓d_wVar, ↓d_wMove, ↓d_wMut, ↓d_wSl, ↓d_oTmp, ↓d_oLoc, ↓d_aNil, ↓d_aCons, ↓d_aRev, res, ress, callA, takeA, nextR, backA, putB, ↓d_gN, ↓d_gTp, ↓d_gsCons, ↓d_gsNil, ↓d_gIx, canSet_eq, free_un, free_sh1, free_ow1, free_fr1, okR, okM, ↓d_pNone, ↓d_pInt, ↓d_fAdd, ↓d_fSub, ↓d_fMul, ↓d_fDiv, ↓d_fMod, ↓d_fPow, ↓d_fShr, ↓d_fShl, ↓d_fAnd, ↓d_fNeg, ↓d_fCmp, ↓d_fLt, ↓d_fLe, ↓d_fGt, ↓d_fGe, ↓d_fIs, ↓d_fIx, ↓d_fIxK, ↓d_fLen, ↓d_fLenK, ↓d_fAbs, ↓fIntOf_bl, ↓fIntOf_int, b2i_true, b2i_false, ↓d_fAddI, ↓d_fMulI, ↓d_fLst, ↓d_fTup, shs, fSeq, fZip, fRev, ↓d_mAppend, ↓d_mExtend, ↓d_mPop0, ↓d_mPopAt, D.isLst, locs, lend, lendI, lent, home, homeI, back1, wipeR, unwipe, ↓d_homeD, wYes, noX, Option.toList, List.getElem?_cons_zero, List.getElem?_cons_succ, List.set_cons_zero, List.set_cons_succ, List.length_cons, List.length_nil, List.headD_cons, List.headD_nil, List.tail_cons, List.tail_nil, List.reverse_cons, List.reverse_nil, List.nil_append, List.cons_append, Nat.zero_add, Bool.false_eq_true, if_true, if_false, ite_true, ite_false, List.contains_cons, List.contains_nil, initR, edOf, outsOf, slotR, List.map_cons, List.map_nil, List.replicate_succ, List.replicate_zero, List.append_nil, Nat.reduceAdd, Nat.reduceSub, Nat.reduceMul, FS_pm, FS_ar, Mo.own, sI, sD, nv, iv, ↓d_fListOf, ↓d_fTupOf, ↓d_parW1, ↓d_parW2, ↓d_sRaise, ↓sIf_eq, ↓wIf_eq, ↓wAndT_eq, ↓wOrT_eq, ↓wAndE_eq, ↓wOrE_eq, ↓sFor_eq, ↓wComp_eq, ↓wCall_eq, ↓sWhile_eq, ↓turnW_eq, brP_true, brP_false, true_and, and_true, pair_eta, atI_0, atI_1, atI_2, atI_3, natsD_cons, natsD_nil, decide_true, decide_false, Bool.not_true, Bool.not_false, Bool.true_xor, Bool.false_xor, Bool.xor_self, few_eq, few_lt, PowOk_iff, Nat.reduceLeDiff, Int.reduceLE, Int.reduceLT, Int.reduceAbs, Int.reduceMul, Int.reduceAdd, Int.reduceSub, Int.reduceNeg, Int.reduceDiv, Int.reduceMod, ↓fEq_int, ↓fEq_str, ↓fEq_bl, ↓fMax2, ↓fMin2, rowD, natsD_len, Nat.reducePow, Nat.reduceLT, Int.reduceToNat, Int.reducePow, and_self, Int.zero_add, List.getD_cons_zero, List.getD_cons_succ, ne_shfr, ne_owfr, ne_bofr, ne_lnfr, Int.toNat_natCast, Nat.one_mul, Nat.reduceBEq, reduceIte, ↓reduceIte, ↓wChain_eq, ↓d_fIsi, ↓d_fRevL, ↓d_fRgL, ↓d_fRgT, tyD, isiB, String.reduceBEq, Bool.or_true, Bool.true_or, Bool.or_false, Bool.false_or, Bool.and_true, Bool.true_and, Bool.and_false, Bool.false_and, ↓fEq_row, ↓fEq_nats, ↓fEq_nats0, rng_nats, ↓fSum_row, ↓fSum_nats])
def pb (a b k : Nat) : Nat × Nat := if 0 < b * 2 ^ k % (a + b) then (a + b - b * 2 ^ k % (a + b), b * 2 ^ k % (a + b)) else (0, a + b)
abbrev sp_pair_behind : FSpec := FS (α := Nat × Nat × Nat) 3 [] (fun a => [nv a.1, nv a.2.1, nv a.2.2]) (fun a => 0 < a.1 + a.2.1 ∧ a.1 < 2 ^ 200 ∧ a.2.1 < 2 ^ 200) (fun a r o => r = (.sh, .tup [.int (pb a.1 a.2.1 a.2.2).1, .int (pb a.1 a.2.1 a.2.2).2]) ∧ o = []) noExc
def w_pair_behind (kl : Kl) : WS :=
(sSeq (sAsg (w2 fAdd (oLoc 0) (oLoc 1)) (gN 3))
(sSeq (sAsg (w2 fMod (oTmp (w2 fMul (oLoc 1) (oTmp (wCall sp_two_to (aCons (oLoc 2) (aCons (oLoc 3) aNil)))))) (oLoc 3)) (gN 4))
(sRet (wIf (wTB (w2 fGt (oLoc 4) (oTmp (wC (.int 0))))) (wN fTup (aCons (oTmp (w2 fSub (oLoc 3) (oLoc 4))) (aCons (oTmp (wVar 4)) aNil))) (wN fTup (aCons (oTmp (wC (.int 0))) (aCons (oTmp (wVar 3)) aNil)))))))
theorem vc_pair_behind (kl : Kl) : VC sp_pair_behind 5 (w_pair_behind kl) := FS.vc fun ⟨a, b, k⟩ hp Q E hQ => by
  obtain ⟨h0, h1, h2⟩ := hp
  simp only at h0 h1 h2 hQ
  have e1 : ((a : Int) + (b : Int)) = ((a + b : Nat) : Int) := by simp
  unfold w_pair_behind
  simp only [↓d_sSeq, ↓d_sAsg, ↓d_sExpr, ↓d_sRet, ↓d_sRetN, ↓d_sNext, ↓d_sAug, ↓d_sPar, ↓d_sBreak, ↓d_sCont, ↓d_wTB, ↓d_wTV, ↓d_wNotT, ↓d_wNotE, ↓d_w1, ↓d_w2, ↓d_wN, ↓d_wC, ↓d_wVar, ↓d_wMove, ↓d_wMut, ↓d_wSl, ↓d_oTmp, ↓d_oLoc, ↓d_aNil, ↓d_aCons, ↓d_aRev, res, ress, callA, takeA, nextR, backA, putB, ↓d_gN, ↓d_gTp, ↓d_gsCons, ↓d_gsNil, ↓d_gIx, canSet_eq, free_un, free_sh1, free_ow1, free_fr1, okR, okM, ↓d_pNone, ↓d_pInt, ↓d_fAdd, ↓d_fSub, ↓d_fMul, ↓d_fDiv, ↓d_fMod, ↓d_fPow, ↓d_fShr, ↓d_fShl, ↓d_fAnd, ↓d_fNeg, ↓d_fCmp, ↓d_fLt, ↓d_fLe, ↓d_fGt, ↓d_fGe, ↓d_fIs, ↓d_fIx, ↓d_fIxK, ↓d_fLen, ↓d_fLenK, ↓d_fAbs, ↓fIntOf_bl, ↓fIntOf_int, b2i_true, b2i_false, ↓d_fAddI, ↓d_fMulI, ↓d_fLst, ↓d_fTup, shs, fSeq, fZip, fRev, ↓d_mAppend, ↓d_mExtend, ↓d_mPop0, ↓d_mPopAt, D.isLst, locs, lend, lendI, lent, home, homeI, back1, wipeR, unwipe, ↓d_homeD, wYes, noX, Option.toList, List.getElem?_cons_zero, List.getElem?_cons_succ, List.set_cons_zero, List.set_cons_succ, List.length_cons, List.length_nil, List.headD_cons, List.headD_nil, List.tail_cons, List.tail_nil, List.reverse_cons, List.reverse_nil, List.nil_append, List.cons_append, Nat.zero_add, Bool.false_eq_true, if_true, if_false, ite_true, ite_false, List.contains_cons, List.contains_nil, initR, edOf, outsOf, slotR, List.map_cons, List.map_nil, List.replicate_succ, List.replicate_zero, List.append_nil, Nat.reduceAdd, Nat.reduceSub, Nat.reduceMul, FS_pm, FS_ar, Mo.own, sI, sD, nv, iv, ↓d_fListOf, ↓d_fTupOf, ↓d_parW1, ↓d_parW2, ↓d_sRaise, ↓sIf_eq, ↓wIf_eq, ↓wAndT_eq, ↓wOrT_eq, ↓wAndE_eq, ↓wOrE_eq, ↓sFor_eq, ↓wComp_eq, ↓wCall_eq, ↓sWhile_eq, ↓turnW_eq, brP_true, brP_false, true_and, and_true, pair_eta, atI_0, atI_1, atI_2, atI_3, natsD_cons, natsD_nil, decide_true, decide_false, Bool.not_true, Bool.not_false, Bool.true_xor, Bool.false_xor, Bool.xor_self, few_eq, few_lt, PowOk_iff, Nat.reduceLeDiff, Int.reduceLE, Int.reduceLT, Int.reduceAbs, Int.reduceMul, Int.reduceAdd, Int.reduceSub, Int.reduceNeg, Int.reduceDiv, Int.reduceMod, ↓fEq_int, ↓fEq_str, ↓fEq_bl, ↓fMax2, ↓fMin2, rowD, natsD_len, Nat.reducePow, Nat.reduceLT, Int.reduceToNat, Int.reducePow, and_self, Int.zero_add, List.getD_cons_zero, List.getD_cons_succ, ne_shfr, ne_owfr, ne_bofr, ne_lnfr, Int.toNat_natCast, Nat.one_mul, Nat.reduceBEq, reduceIte, ↓reduceIte, ↓wChain_eq, ↓d_fIsi, ↓d_fRevL, ↓d_fRgL, ↓d_fRgT, tyD, isiB, String.reduceBEq, Bool.or_true, Bool.true_or, Bool.or_false, Bool.false_or, Bool.and_true, Bool.true_and, Bool.and_false, Bool.false_and, ↓fEq_row, ↓fEq_nats, ↓fEq_nats0, rng_nats, ↓fSum_row, ↓fSum_nats, e1]
  refine call0 (k, a + b) rfl rfl ⟨h0, by simp only; omega⟩ ?_
  rintro _ _ ⟨rfl, rfl⟩
  have hm : 2 ^ k % (a + b) < a + b := Nat.mod_lt _ h0
  have e2 : ((b : Int) * ((2 ^ k % (a + b) : Nat) : Int) % ((a + b : Nat) : Int)) = ((b * 2 ^ k % (a + b) : Nat) : Int) := by
    rw [← Nat.mul_mod_mod b (2 ^ k)]
    generalize 2 ^ k % (a + b) = m
    simp
  simp only [↓d_sSeq, ↓d_sAsg, ↓d_sExpr, ↓d_sRet, ↓d_sRetN, ↓d_sNext, ↓d_sAug, ↓d_sPar, ↓d_sBreak, ↓d_sCont, ↓d_wTB, ↓d_wTV, ↓d_wNotT, ↓d_wNotE, ↓d_w1, ↓d_w2, ↓d_wN, ↓d_wC, ↓d_wVar, ↓d_wMove, ↓d_wMut, ↓d_wSl, ↓d_oTmp, ↓d_oLoc, ↓d_aNil, ↓d_aCons, ↓d_aRev, res, ress, callA, takeA, nextR, backA, putB, ↓d_gN, ↓d_gTp, ↓d_gsCons, ↓d_gsNil, ↓d_gIx, canSet_eq, free_un, free_sh1, free_ow1, free_fr1, okR, okM, ↓d_pNone, ↓d_pInt, ↓d_fAdd, ↓d_fSub, ↓d_fMul, ↓d_fDiv, ↓d_fMod, ↓d_fPow, ↓d_fShr, ↓d_fShl, ↓d_fAnd, ↓d_fNeg, ↓d_fCmp, ↓d_fLt, ↓d_fLe, ↓d_fGt, ↓d_fGe, ↓d_fIs, ↓d_fIx, ↓d_fIxK, ↓d_fLen, ↓d_fLenK, ↓d_fAbs, ↓fIntOf_bl, ↓fIntOf_int, b2i_true, b2i_false, ↓d_fAddI, ↓d_fMulI, ↓d_fLst, ↓d_fTup, shs, fSeq, fZip, fRev, ↓d_mAppend, ↓d_mExtend, ↓d_mPop0, ↓d_mPopAt, D.isLst, locs, lend, lendI, lent, home, homeI, back1, wipeR, unwipe, ↓d_homeD, wYes, noX, Option.toList, List.getElem?_cons_zero, List.getElem?_cons_succ, List.set_cons_zero, List.set_cons_succ, List.length_cons, List.length_nil, List.headD_cons, List.headD_nil, List.tail_cons, List.tail_nil, List.reverse_cons, List.reverse_nil, List.nil_append, List.cons_append, Nat.zero_add, Bool.false_eq_true, if_true, if_false, ite_true, ite_false, List.contains_cons, List.contains_nil, initR, edOf, outsOf, slotR, List.map_cons, List.map_nil, List.replicate_succ, List.replicate_zero, List.append_nil, Nat.reduceAdd, Nat.reduceSub, Nat.reduceMul, FS_pm, FS_ar, Mo.own, sI, sD, nv, iv, ↓d_fListOf, ↓d_fTupOf, ↓d_parW1, ↓d_parW2, ↓d_sRaise, ↓sIf_eq, ↓wIf_eq, ↓wAndT_eq, ↓wOrT_eq, ↓wAndE_eq, ↓wOrE_eq, ↓sFor_eq, ↓wComp_eq, ↓wCall_eq, ↓sWhile_eq, ↓turnW_eq, brP_true, brP_false, true_and, and_true, pair_eta, atI_0, atI_1, atI_2, atI_3, natsD_cons, natsD_nil, decide_true, decide_false, Bool.not_true, Bool.not_false, Bool.true_xor, Bool.false_xor, Bool.xor_self, few_eq, few_lt, PowOk_iff, Nat.reduceLeDiff, Int.reduceLE, Int.reduceLT, Int.reduceAbs, Int.reduceMul, Int.reduceAdd, Int.reduceSub, Int.reduceNeg, Int.reduceDiv, Int.reduceMod, ↓fEq_int, ↓fEq_str, ↓fEq_bl, ↓fMax2, ↓fMin2, rowD, natsD_len, Nat.reducePow, Nat.reduceLT, Int.reduceToNat, Int.reducePow, and_self, Int.zero_add, List.getD_cons_zero, List.getD_cons_succ, ne_shfr, ne_owfr, ne_bofr, ne_lnfr, Int.toNat_natCast, Nat.one_mul, Nat.reduceBEq, reduceIte, ↓reduceIte, ↓wChain_eq, ↓d_fIsi, ↓d_fRevL, ↓d_fRgL, ↓d_fRgT, tyD, isiB, String.reduceBEq, Bool.or_true, Bool.true_or, Bool.or_false, Bool.false_or, Bool.and_true, Bool.true_and, Bool.and_false, Bool.false_and, ↓fEq_row, ↓fEq_nats, ↓fEq_nats0, rng_nats, ↓fSum_row, ↓fSum_nats, e2]
  generalize 2 ^ k % (a + b) = m at *
  have hr : b * 2 ^ k % (a + b) < a + b := Nat.mod_lt _ h0
  unfold pb at hQ
  generalize b * 2 ^ k % (a + b) = r at *
  refine ⟨mulOkI (by omega), by omega, brD (fun h => ?_) (fun h => ?_)⟩
  · have h : 0 < r := by omega
    rw [if_pos h] at hQ
    have e3 : (((a + b : Nat) : Int) - (r : Int)) = ((a + b - r : Nat) : Int) := by omega
    simp only [↓d_sSeq, ↓d_sAsg, ↓d_sExpr, ↓d_sRet, ↓d_sRetN, ↓d_sNext, ↓d_sAug, ↓d_sPar, ↓d_sBreak, ↓d_sCont, ↓d_wTB, ↓d_wTV, ↓d_wNotT, ↓d_wNotE, ↓d_w1, ↓d_w2, ↓d_wN, ↓d_wC, ↓d_wVar, ↓d_wMove, ↓d_wMut, ↓d_wSl, ↓d_oTmp, ↓d_oLoc, ↓d_aNil, ↓d_aCons, ↓d_aRev, res, ress, callA, takeA, nextR, backA, putB, ↓d_gN, ↓d_gTp, ↓d_gsCons, ↓d_gsNil, ↓d_gIx, canSet_eq, free_un, free_sh1, free_ow1, free_fr1, okR, okM, ↓d_pNone, ↓d_pInt, ↓d_fAdd, ↓d_fSub, ↓d_fMul, ↓d_fDiv, ↓d_fMod, ↓d_fPow, ↓d_fShr, ↓d_fShl, ↓d_fAnd, ↓d_fNeg, ↓d_fCmp, ↓d_fLt, ↓d_fLe, ↓d_fGt, ↓d_fGe, ↓d_fIs, ↓d_fIx, ↓d_fIxK, ↓d_fLen, ↓d_fLenK, ↓d_fAbs, ↓fIntOf_bl, ↓fIntOf_int, b2i_true, b2i_false, ↓d_fAddI, ↓d_fMulI, ↓d_fLst, ↓d_fTup, shs, fSeq, fZip, fRev, ↓d_mAppend, ↓d_mExtend, ↓d_mPop0, ↓d_mPopAt, D.isLst, locs, lend, lendI, lent, home, homeI, back1, wipeR, unwipe, ↓d_homeD, wYes, noX, Option.toList, List.getElem?_cons_zero, List.getElem?_cons_succ, List.set_cons_zero, List.set_cons_succ, List.length_cons, List.length_nil, List.headD_cons, List.headD_nil, List.tail_cons, List.tail_nil, List.reverse_cons, List.reverse_nil, List.nil_append, List.cons_append, Nat.zero_add, Bool.false_eq_true, if_true, if_false, ite_true, ite_false, List.contains_cons, List.contains_nil, initR, edOf, outsOf, slotR, List.map_cons, List.map_nil, List.replicate_succ, List.replicate_zero, List.append_nil, Nat.reduceAdd, Nat.reduceSub, Nat.reduceMul, FS_pm, FS_ar, Mo.own, sI, sD, nv, iv, ↓d_fListOf, ↓d_fTupOf, ↓d_parW1, ↓d_parW2, ↓d_sRaise, ↓sIf_eq, ↓wIf_eq, ↓wAndT_eq, ↓wOrT_eq, ↓wAndE_eq, ↓wOrE_eq, ↓sFor_eq, ↓wComp_eq, ↓wCall_eq, ↓sWhile_eq, ↓turnW_eq, brP_true, brP_false, true_and, and_true, pair_eta, atI_0, atI_1, atI_2, atI_3, natsD_cons, natsD_nil, decide_true, decide_false, Bool.not_true, Bool.not_false, Bool.true_xor, Bool.false_xor, Bool.xor_self, few_eq, few_lt, PowOk_iff, Nat.reduceLeDiff, Int.reduceLE, Int.reduceLT, Int.reduceAbs, Int.reduceMul, Int.reduceAdd, Int.reduceSub, Int.reduceNeg, Int.reduceDiv, Int.reduceMod, ↓fEq_int, ↓fEq_str, ↓fEq_bl, ↓fMax2, ↓fMin2, rowD, natsD_len, Nat.reducePow, Nat.reduceLT, Int.reduceToNat, Int.reducePow, and_self, Int.zero_add, List.getD_cons_zero, List.getD_cons_succ, ne_shfr, ne_owfr, ne_bofr, ne_lnfr, Int.toNat_natCast, Nat.one_mul, Nat.reduceBEq, reduceIte, ↓reduceIte, ↓wChain_eq, ↓d_fIsi, ↓d_fRevL, ↓d_fRgL, ↓d_fRgT, tyD, isiB, String.reduceBEq, Bool.or_true, Bool.true_or, Bool.or_false, Bool.false_or, Bool.and_true, Bool.true_and, Bool.and_false, Bool.false_and, ↓fEq_row, ↓fEq_nats, ↓fEq_nats0, rng_nats, ↓fSum_row, ↓fSum_nats, e2, e3]
    exact hQ _ _ ⟨rfl, rfl⟩
  · have h : ¬ 0 < r := by omega
    rw [if_neg h] at hQ
    walk_at "wp"
    exact hQ _ _ ⟨rfl, rfl⟩
def onD : Option Nat → D
  | some n => .int n
  | none => .non
def endB (a b : Nat) : Option Nat := if od ((a + b) / Nat.gcd a b) = 1 then some (tw ((a + b) / Nat.gcd a b)) else none
theorem parts_pos {a b : Nat} (h : 0 < a + b) : 0 < (a + b) / Nat.gcd a b := by
  have hg : 0 < Nat.gcd a b := by
    rcases Nat.eq_zero_or_pos a with h1 | h1
    · subst h1; rw [Nat.gcd_zero_left]; omega
    · exact Nat.gcd_pos_of_pos_left _ h1
  refine Nat.div_pos (Nat.le_of_dvd h ?_) hg
  exact Nat.dvd_add (Nat.gcd_dvd_left a b) (Nat.gcd_dvd_right a b)
theorem gcd_pos2 {a b : Nat} (h : 0 < a + b) : 0 < Nat.gcd a b := by
  rcases Nat.eq_zero_or_pos a with h1 | h1
  · subst h1; rw [Nat.gcd_zero_left]; omega
  · exact Nat.gcd_pos_of_pos_left _ h1
theorem gcd_le2 {a b : Nat} (h : 0 < a + b) : Nat.gcd a b ≤ a + b := Nat.le_of_dvd h (Nat.dvd_add (Nat.gcd_dvd_left a b) (Nat.gcd_dvd_right a b))
abbrev sp_pair_ended_by : FSpec := FS (α := Nat × Nat) 2 [] (fun a => [nv a.1, nv a.2]) (fun a => 0 < a.1 + a.2 ∧ a.1 < 2 ^ 200 ∧ a.2 < 2 ^ 200) (fun a r o => r = (.sh, onD (endB a.1 a.2)) ∧ o = []) noExc
def w_pair_ended_by (kl : Kl) : WS :=
(sSeq (sAsg (w2 fDiv (oTmp (w2 fAdd (oLoc 0) (oLoc 1))) (oTmp (wCall sp_greatest_part (aCons (oLoc 0) (aCons (oLoc 1) aNil))))) (gN 2))
(sRet (wIf (wTB (w2 (fEq false) (oTmp (wCall sp_odd_part (aCons (oLoc 2) aNil))) (oTmp (wC (.int 1))))) (wCall sp_twos_in (aCons (oLoc 2) aNil)) (wC .non))))
theorem vc_pair_ended_by (kl : Kl) : VC sp_pair_ended_by 3 (w_pair_ended_by kl) := FS.vc fun ⟨a, b⟩ hp Q E hQ => by
  obtain ⟨h0, h1, h2⟩ := hp
  simp only at h0 h1 h2 hQ
  unfold w_pair_ended_by
  walk_at "wp"
  refine call0 (a, b) rfl rfl trivial ?_
  rintro _ _ ⟨rfl, rfl⟩
  have hg := gcd_pos2 h0
  have hg2 := gcd_le2 h0
  have hp := parts_pos h0
  have e1 : (((a : Int) + (b : Int)) / ((Nat.gcd a b : Nat) : Int)) = (((a + b) / Nat.gcd a b : Nat) : Int) := by simp
  simp only [↓d_sSeq, ↓d_sAsg, ↓d_sExpr, ↓d_sRet, ↓d_sRetN, ↓d_sNext, ↓d_sAug, ↓d_sPar, ↓d_sBreak, ↓d_sCont, ↓d_wTB, ↓d_wTV, ↓d_wNotT, ↓d_wNotE, ↓d_w1, ↓d_w2, ↓d_wN, ↓d_wC, ↓d_wVar, ↓d_wMove, ↓d_wMut, ↓d_wSl, ↓d_oTmp, ↓d_oLoc, ↓d_aNil, ↓d_aCons, ↓d_aRev, res, ress, callA, takeA, nextR, backA, putB, ↓d_gN, ↓d_gTp, ↓d_gsCons, ↓d_gsNil, ↓d_gIx, canSet_eq, free_un, free_sh1, free_ow1, free_fr1, okR, okM, ↓d_pNone, ↓d_pInt, ↓d_fAdd, ↓d_fSub, ↓d_fMul, ↓d_fDiv, ↓d_fMod, ↓d_fPow, ↓d_fShr, ↓d_fShl, ↓d_fAnd, ↓d_fNeg, ↓d_fCmp, ↓d_fLt, ↓d_fLe, ↓d_fGt, ↓d_fGe, ↓d_fIs, ↓d_fIx, ↓d_fIxK, ↓d_fLen, ↓d_fLenK, ↓d_fAbs, ↓fIntOf_bl, ↓fIntOf_int, b2i_true, b2i_false, ↓d_fAddI, ↓d_fMulI, ↓d_fLst, ↓d_fTup, shs, fSeq, fZip, fRev, ↓d_mAppend, ↓d_mExtend, ↓d_mPop0, ↓d_mPopAt, D.isLst, locs, lend, lendI, lent, home, homeI, back1, wipeR, unwipe, ↓d_homeD, wYes, noX, Option.toList, List.getElem?_cons_zero, List.getElem?_cons_succ, List.set_cons_zero, List.set_cons_succ, List.length_cons, List.length_nil, List.headD_cons, List.headD_nil, List.tail_cons, List.tail_nil, List.reverse_cons, List.reverse_nil, List.nil_append, List.cons_append, Nat.zero_add, Bool.false_eq_true, if_true, if_false, ite_true, ite_false, List.contains_cons, List.contains_nil, initR, edOf, outsOf, slotR, List.map_cons, List.map_nil, List.replicate_succ, List.replicate_zero, List.append_nil, Nat.reduceAdd, Nat.reduceSub, Nat.reduceMul, FS_pm, FS_ar, Mo.own, sI, sD, nv, iv, ↓d_fListOf, ↓d_fTupOf, ↓d_parW1, ↓d_parW2, ↓d_sRaise, ↓sIf_eq, ↓wIf_eq, ↓wAndT_eq, ↓wOrT_eq, ↓wAndE_eq, ↓wOrE_eq, ↓sFor_eq, ↓wComp_eq, ↓wCall_eq, ↓sWhile_eq, ↓turnW_eq, brP_true, brP_false, true_and, and_true, pair_eta, atI_0, atI_1, atI_2, atI_3, natsD_cons, natsD_nil, decide_true, decide_false, Bool.not_true, Bool.not_false, Bool.true_xor, Bool.false_xor, Bool.xor_self, few_eq, few_lt, PowOk_iff, Nat.reduceLeDiff, Int.reduceLE, Int.reduceLT, Int.reduceAbs, Int.reduceMul, Int.reduceAdd, Int.reduceSub, Int.reduceNeg, Int.reduceDiv, Int.reduceMod, ↓fEq_int, ↓fEq_str, ↓fEq_bl, ↓fMax2, ↓fMin2, rowD, natsD_len, Nat.reducePow, Nat.reduceLT, Int.reduceToNat, Int.reducePow, and_self, Int.zero_add, List.getD_cons_zero, List.getD_cons_succ, ne_shfr, ne_owfr, ne_bofr, ne_lnfr, Int.toNat_natCast, Nat.one_mul, Nat.reduceBEq, reduceIte, ↓reduceIte, ↓wChain_eq, ↓d_fIsi, ↓d_fRevL, ↓d_fRgL, ↓d_fRgT, tyD, isiB, String.reduceBEq, Bool.or_true, Bool.true_or, Bool.or_false, Bool.false_or, Bool.and_true, Bool.true_and, Bool.and_false, Bool.false_and, ↓fEq_row, ↓fEq_nats, ↓fEq_nats0, rng_nats, ↓fSum_row, ↓fSum_nats, e1]
  unfold endB at hQ
  generalize (a + b) / Nat.gcd a b = p at *
  refine ⟨divOkI (by omega), ?_⟩
  refine call0 p rfl rfl hp ?_
  rintro _ _ ⟨rfl, rfl⟩
  walk_at "wp"
  refine brD (fun h => ?_) (fun h => ?_)
  · rw [if_pos (by omega)] at hQ
    walk_at "wp"
    refine call0 p rfl rfl hp ?_
    rintro _ _ ⟨rfl, rfl⟩
    walk_at "wp"
    exact hQ _ _ ⟨rfl, rfl⟩
  · rw [if_neg (by omega)] at hQ
    walk_at "wp"
    exact hQ _ _ ⟨rfl, rfl⟩
abbrev sp_ended_by : FSpec := FS (α := List Nat × Nat × Nat) 3 [] (fun a => [(.sh, rowD a.1), nv a.2.1, nv a.2.2]) (fun a => a.2.1 < a.1.length ∧ a.2.2 < a.1.length ∧ 0 < a.1.getD a.2.1 0 ∧ (∀ x ∈ a.1, x < 2 ^ 200)) (fun a r o => r = (.sh, onD (endB (a.1.getD a.2.1 0) (a.1.getD a.2.2 0))) ∧ o = []) noExc
def w_ended_by (kl : Kl) : WS :=
(sRet (wCall sp_pair_ended_by (aCons (oTmp (w2 (fIxK kl) (oLoc 0) (oLoc 1))) (aCons (oTmp (w2 (fIxK kl) (oLoc 0) (oLoc 2))) aNil))))
theorem getD_lt {xs : List Nat} {k i : Nat} (h : ∀ x ∈ xs, x < k) (hi : i < xs.length) : xs.getD i 0 < k := h _ (List.mem_of_getElem? (getD_get hi))
theorem vc_ended_by (kl : Kl) : VC sp_ended_by 3 (w_ended_by kl) := FS.vc fun ⟨xs, i, j⟩ hp Q E hQ => by
  obtain ⟨h0, h1, h2, h3⟩ := hp
  simp only at h0 h1 h2 h3 hQ
  have g1 := atI_nats (getD_get (xs := xs) (i := i) h0)
  have g2 := atI_nats (getD_get (xs := xs) (i := j) h1)
  unfold w_ended_by
  simp only [↓d_sSeq, ↓d_sAsg, ↓d_sExpr, ↓d_sRet, ↓d_sRetN, ↓d_sNext, ↓d_sAug, ↓d_sPar, ↓d_sBreak, ↓d_sCont, ↓d_wTB, ↓d_wTV, ↓d_wNotT, ↓d_wNotE, ↓d_w1, ↓d_w2, ↓d_wN, ↓d_wC, ↓d_wVar, ↓d_wMove, ↓d_wMut, ↓d_wSl, ↓d_oTmp, ↓d_oLoc, ↓d_aNil, ↓d_aCons, ↓d_aRev, res, ress, callA, takeA, nextR, backA, putB, ↓d_gN, ↓d_gTp, ↓d_gsCons, ↓d_gsNil, ↓d_gIx, canSet_eq, free_un, free_sh1, free_ow1, free_fr1, okR, okM, ↓d_pNone, ↓d_pInt, ↓d_fAdd, ↓d_fSub, ↓d_fMul, ↓d_fDiv, ↓d_fMod, ↓d_fPow, ↓d_fShr, ↓d_fShl, ↓d_fAnd, ↓d_fNeg, ↓d_fCmp, ↓d_fLt, ↓d_fLe, ↓d_fGt, ↓d_fGe, ↓d_fIs, ↓d_fIx, ↓d_fIxK, ↓d_fLen, ↓d_fLenK, ↓d_fAbs, ↓fIntOf_bl, ↓fIntOf_int, b2i_true, b2i_false, ↓d_fAddI, ↓d_fMulI, ↓d_fLst, ↓d_fTup, shs, fSeq, fZip, fRev, ↓d_mAppend, ↓d_mExtend, ↓d_mPop0, ↓d_mPopAt, D.isLst, locs, lend, lendI, lent, home, homeI, back1, wipeR, unwipe, ↓d_homeD, wYes, noX, Option.toList, List.getElem?_cons_zero, List.getElem?_cons_succ, List.set_cons_zero, List.set_cons_succ, List.length_cons, List.length_nil, List.headD_cons, List.headD_nil, List.tail_cons, List.tail_nil, List.reverse_cons, List.reverse_nil, List.nil_append, List.cons_append, Nat.zero_add, Bool.false_eq_true, if_true, if_false, ite_true, ite_false, List.contains_cons, List.contains_nil, initR, edOf, outsOf, slotR, List.map_cons, List.map_nil, List.replicate_succ, List.replicate_zero, List.append_nil, Nat.reduceAdd, Nat.reduceSub, Nat.reduceMul, FS_pm, FS_ar, Mo.own, sI, sD, nv, iv, ↓d_fListOf, ↓d_fTupOf, ↓d_parW1, ↓d_parW2, ↓d_sRaise, ↓sIf_eq, ↓wIf_eq, ↓wAndT_eq, ↓wOrT_eq, ↓wAndE_eq, ↓wOrE_eq, ↓sFor_eq, ↓wComp_eq, ↓wCall_eq, ↓sWhile_eq, ↓turnW_eq, brP_true, brP_false, true_and, and_true, pair_eta, atI_0, atI_1, atI_2, atI_3, natsD_cons, natsD_nil, decide_true, decide_false, Bool.not_true, Bool.not_false, Bool.true_xor, Bool.false_xor, Bool.xor_self, few_eq, few_lt, PowOk_iff, Nat.reduceLeDiff, Int.reduceLE, Int.reduceLT, Int.reduceAbs, Int.reduceMul, Int.reduceAdd, Int.reduceSub, Int.reduceNeg, Int.reduceDiv, Int.reduceMod, ↓fEq_int, ↓fEq_str, ↓fEq_bl, ↓fMax2, ↓fMin2, rowD, natsD_len, Nat.reducePow, Nat.reduceLT, Int.reduceToNat, Int.reducePow, and_self, Int.zero_add, List.getD_cons_zero, List.getD_cons_succ, ne_shfr, ne_owfr, ne_bofr, ne_lnfr, Int.toNat_natCast, Nat.one_mul, Nat.reduceBEq, reduceIte, ↓reduceIte, ↓wChain_eq, ↓d_fIsi, ↓d_fRevL, ↓d_fRgL, ↓d_fRgT, tyD, isiB, String.reduceBEq, Bool.or_true, Bool.true_or, Bool.or_false, Bool.false_or, Bool.and_true, Bool.true_and, Bool.and_false, Bool.false_and, ↓fEq_row, ↓fEq_nats, ↓fEq_nats0, rng_nats, ↓fSum_row, ↓fSum_nats, g1, g2]
  refine call0 (xs.getD i 0, xs.getD j 0) rfl rfl ⟨by simp only; omega, getD_lt h3 h0, getD_lt h3 h1⟩ ?_
  rintro _ _ ⟨rfl, rfl⟩
  walk_at "wp"
  exact hQ _ _ ⟨rfl, rfl⟩
def isRun : D → Bool
  | .tup [a, b, c] => isWhole a && (isWhole b && (isWhole c && !eqD a b))
  | _ => false
theorem isRun_tup (a b c : D) : isRun (.tup [a, b, c]) = (isWhole a && (isWhole b && (isWhole c && !eqD a b))) := rfl
def runPre : D → Bool
  | .tup ds => ds.all tyOk && decide (ds.length ≤ 1000)
  | d => tyOk d
abbrev sp_is_run : FSpec := FS (α := D) 1 [] (fun d => [(.sh, d)]) (fun d => runPre d = true) (fun d r o => r = (.sh, .bl (isRun d)) ∧ o = []) noExc
def w_is_run (kl : Kl) : WS :=
(sSeq (sIf (wOrT (wNotT (wTV (w1 (fIsi "tuple") (oLoc 0)))) (wOrT (wTB (w2 (fEq true) (oTmp (wN (fLenK kl) (aCons (oLoc 0) aNil))) (oTmp (wC (.int 3))))) (wNotT (wTV (wN fAll (aCons (oTmp (wComp fSeq (aCons (oLoc 0) aNil) (gN 1) wYes (wCall sp_is_whole (aCons (oLoc 1) aNil)) [1])) aNil))))))
(sRet (wC (.bl false)))
sNext)
(sRet (w2 (fEq true) (oTmp (w2 (fIxK kl) (oLoc 0) (oTmp (wC (.int 0))))) (oTmp (w2 (fIxK kl) (oLoc 0) (oTmp (wC (.int 1))))))))
theorem filterMap_some {α β : Type} (f : α → β) (xs : List α) : xs.filterMap (fun x => some (f x)) = xs.map f := by
  induction xs with
  | nil => rfl
  | cons x xs ih => simp [ih]
theorem vc_is_run (kl : Kl) : VC sp_is_run 2 (w_is_run kl) := FS.vc fun d hp Q E hQ => by
  unfold w_is_run
  cases d with
  | set ds => cases hp
  | obj a => cases hp
  | tup ds =>
    have hp : (ds.all tyOk && decide (ds.length ≤ 1000)) = true := hp
    rw [Bool.and_eq_true] at hp
    have hall := List.all_eq_true.mp hp.1
    have hlen : ds.length ≤ 1000 := by simpa using hp.2
    walk_at "wp"
    refine brN (fun h => ?_) (fun h => ?_)
    · walk_at "wp"
      refine hQ _ _ ⟨?_, rfl⟩
      have : isRun (.tup ds) = false := by
        match ds, h with
        | [], _ => rfl
        | [_], _ => rfl
        | [_, _], _ => rfl
        | [_, _, _], h => exact absurd rfl h
        | _ :: _ :: _ :: _ :: _, _ => rfl
      rw [this]
    match ds, h, hall with
    | [a, b, c], _, hall =>
      walk_at "wp"
      refine compP (fun d => some (.bl (isWhole d))) (items := [a, b, c]) rfl (few (n := 3) (by decide)) (fun x acc N hx ha hN => ?_) ?_
      · walk_at "wp"
        refine call0 x rfl rfl (hall x hx) ?_
        rintro _ _ ⟨rfl, rfl⟩
        walk_at "wp"
        exact ⟨ha, hN⟩
      have e : [a, b, c].filterMap (fun d => some (D.bl (isWhole d))) = [isWhole a, isWhole b, isWhole c].map D.bl := rfl
      have e2 : ([isWhole a, isWhole b, isWhole c].all id) = (isWhole a && (isWhole b && isWhole c)) := by simp
      simp only [↓d_sSeq, ↓d_sAsg, ↓d_sExpr, ↓d_sRet, ↓d_sRetN, ↓d_sNext, ↓d_sAug, ↓d_sPar, ↓d_sBreak, ↓d_sCont, ↓d_wTB, ↓d_wTV, ↓d_wNotT, ↓d_wNotE, ↓d_w1, ↓d_w2, ↓d_wN, ↓d_wC, ↓d_wVar, ↓d_wMove, ↓d_wMut, ↓d_wSl, ↓d_oTmp, ↓d_oLoc, ↓d_aNil, ↓d_aCons, ↓d_aRev, res, ress, callA, takeA, nextR, backA, putB, ↓d_gN, ↓d_gTp, ↓d_gsCons, ↓d_gsNil, ↓d_gIx, canSet_eq, free_un, free_sh1, free_ow1, free_fr1, okR, okM, ↓d_pNone, ↓d_pInt, ↓d_fAdd, ↓d_fSub, ↓d_fMul, ↓d_fDiv, ↓d_fMod, ↓d_fPow, ↓d_fShr, ↓d_fShl, ↓d_fAnd, ↓d_fNeg, ↓d_fCmp, ↓d_fLt, ↓d_fLe, ↓d_fGt, ↓d_fGe, ↓d_fIs, ↓d_fIx, ↓d_fIxK, ↓d_fLen, ↓d_fLenK, ↓d_fAbs, ↓fIntOf_bl, ↓fIntOf_int, b2i_true, b2i_false, ↓d_fAddI, ↓d_fMulI, ↓d_fLst, ↓d_fTup, shs, fSeq, fZip, fRev, ↓d_mAppend, ↓d_mExtend, ↓d_mPop0, ↓d_mPopAt, D.isLst, locs, lend, lendI, lent, home, homeI, back1, wipeR, unwipe, ↓d_homeD, wYes, noX, Option.toList, List.getElem?_cons_zero, List.getElem?_cons_succ, List.set_cons_zero, List.set_cons_succ, List.length_cons, List.length_nil, List.headD_cons, List.headD_nil, List.tail_cons, List.tail_nil, List.reverse_cons, List.reverse_nil, List.nil_append, List.cons_append, Nat.zero_add, Bool.false_eq_true, if_true, if_false, ite_true, ite_false, List.contains_cons, List.contains_nil, initR, edOf, outsOf, slotR, List.map_cons, List.map_nil, List.replicate_succ, List.replicate_zero, List.append_nil, Nat.reduceAdd, Nat.reduceSub, Nat.reduceMul, FS_pm, FS_ar, Mo.own, sI, sD, nv, iv, ↓d_fListOf, ↓d_fTupOf, ↓d_parW1, ↓d_parW2, ↓d_sRaise, ↓sIf_eq, ↓wIf_eq, ↓wAndT_eq, ↓wOrT_eq, ↓wAndE_eq, ↓wOrE_eq, ↓sFor_eq, ↓wComp_eq, ↓wCall_eq, ↓sWhile_eq, ↓turnW_eq, brP_true, brP_false, true_and, and_true, pair_eta, atI_0, atI_1, atI_2, atI_3, natsD_cons, natsD_nil, decide_true, decide_false, Bool.not_true, Bool.not_false, Bool.true_xor, Bool.false_xor, Bool.xor_self, few_eq, few_lt, PowOk_iff, Nat.reduceLeDiff, Int.reduceLE, Int.reduceLT, Int.reduceAbs, Int.reduceMul, Int.reduceAdd, Int.reduceSub, Int.reduceNeg, Int.reduceDiv, Int.reduceMod, ↓fEq_int, ↓fEq_str, ↓fEq_bl, ↓fMax2, ↓fMin2, rowD, natsD_len, Nat.reducePow, Nat.reduceLT, Int.reduceToNat, Int.reducePow, and_self, Int.zero_add, List.getD_cons_zero, List.getD_cons_succ, ne_shfr, ne_owfr, ne_bofr, ne_lnfr, Int.toNat_natCast, Nat.one_mul, Nat.reduceBEq, reduceIte, ↓reduceIte, ↓wChain_eq, ↓d_fIsi, ↓d_fRevL, ↓d_fRgL, ↓d_fRgT, tyD, isiB, String.reduceBEq, Bool.or_true, Bool.true_or, Bool.or_false, Bool.false_or, Bool.and_true, Bool.true_and, Bool.and_false, Bool.false_and, ↓fEq_row, ↓fEq_nats, ↓fEq_nats0, rng_nats, ↓fSum_row, ↓fSum_nats, fAll_eq e, e2]
      cases h1 : isWhole a with
      | false => walk_at "wp"; refine hQ _ _ ⟨?_, rfl⟩; rw [isRun_tup, h1]; rfl
      | true =>
        cases h2 : isWhole b with
        | false => walk_at "wp"; refine hQ _ _ ⟨?_, rfl⟩; rw [isRun_tup, h1, h2]; rfl
        | true =>
          cases h3 : isWhole c with
          | false => walk_at "wp"; refine hQ _ _ ⟨?_, rfl⟩; rw [isRun_tup, h1, h2, h3]; rfl
          | true =>
            obtain ⟨i, rfl⟩ := isWhole_int h1
            obtain ⟨j, rfl⟩ := isWhole_int h2
            walk_at "wp"
            refine hQ _ _ ⟨?_, rfl⟩
            rw [isRun_tup, h1, h2, h3]
            unfold eqD
            simp
  | _ => walk_at "wp"; exact hQ _ _ ⟨rfl, rfl⟩
theorem isRun_of {d : D} (h : isRun d = true) : ∃ i j k : Nat, d = .tup [.int i, .int j, .int k] ∧ i ≠ j := by
  unfold isRun at h
  split at h
  · rename_i a b c
    simp only [Bool.and_eq_true, Bool.not_eq_true'] at h
    obtain ⟨h1, h2, h3, h4⟩ := h
    obtain ⟨i, rfl⟩ := isWhole_int h1
    obtain ⟨j, rfl⟩ := isWhole_int h2
    obtain ⟨k, rfl⟩ := isWhole_int h3
    refine ⟨i, j, k, rfl, fun e => ?_⟩
    subst e
    unfold eqD at h4
    simp at h4
  · cases h
theorem isRun_ints {i j k : Nat} (h : i ≠ j) : isRun (.tup [.int i, .int j, .int k]) = true := by
  unfold isRun isWhole eqD
  have : ¬ (i : Int) = (j : Int) := by omega
  simp [this]
def within (k : Nat) : Option Nat → Bool
  | none => true
  | some m => decide (k ≤ m)
def mayRun (xs : List Nat) (d : D) : Bool := isRun d && (match d with
  | .tup [.int i, .int j, .int k] => areTwo xs (.int i) (.int j) && within k.toNat (endB (xs.getD i.toNat 0) (xs.getD j.toNat 0))
  | _ => false)
abbrev sp_may_run : FSpec := FS (α := List Nat × D) 2 [] (fun a => [(.sh, rowD a.1), (.sh, a.2)]) (fun a => runPre a.2 = true ∧ ∀ x ∈ a.1, x < 2 ^ 200) (fun a r o => r = (.sh, .bl (mayRun a.1 a.2)) ∧ o = []) noExc
def w_may_run (kl : Kl) : WS :=
(sSeq (sIf (wOrT (wNotT (wTV (wCall sp_is_run (aCons (oLoc 1) aNil)))) (wNotT (wTV (wCall sp_are_two (aCons (oLoc 0) (aCons (oTmp (w2 (fIxK kl) (oLoc 1) (oTmp (wC (.int 0))))) (aCons (oTmp (w2 (fIxK kl) (oLoc 1) (oTmp (wC (.int 1))))) aNil)))))))
(sRet (wC (.bl false)))
sNext)
(sSeq (sAsg (wCall sp_ended_by (aCons (oLoc 0) (aCons (oTmp (w2 (fIxK kl) (oLoc 1) (oTmp (wC (.int 0))))) (aCons (oTmp (w2 (fIxK kl) (oLoc 1) (oTmp (wC (.int 1))))) aNil)))) (gN 2))
(sRet (wOrE (w2 (fIs false) (oLoc 2) (oTmp (wC .non))) (w2 fLe (oTmp (w2 (fIxK kl) (oLoc 1) (oTmp (wC (.int 2))))) (oLoc 2))))))
theorem vc_may_run (kl : Kl) : VC sp_may_run 3 (w_may_run kl) := FS.vc fun ⟨xs, d⟩ hp Q E hQ => by
  obtain ⟨h1, h2⟩ := hp
  simp only at h1 h2 hQ
  unfold w_may_run
  walk_at "wp"
  refine call0 d rfl rfl h1 ?_
  rintro _ _ ⟨rfl, rfl⟩
  walk_at "wp"
  cases hr : isRun d with
  | false =>
    walk_at "wp"
    refine hQ _ _ ⟨?_, rfl⟩
    unfold mayRun; rw [hr]; rfl
  | true =>
    obtain ⟨i, j, k, rfl, hij⟩ := isRun_of hr
    have em : mayRun xs (.tup [.int i, .int j, .int k]) = (areTwo xs (.int i) (.int j) && within k (endB (xs.getD i 0) (xs.getD j 0))) := by
      unfold mayRun; rw [hr]; simp
    rw [em] at hQ
    walk_at "wp"
    refine call0 (xs, .int i, .int j) rfl rfl ⟨rfl, rfl⟩ ?_
    rintro _ _ ⟨rfl, rfl⟩
    walk_at "wp"
    cases ht : areTwo xs (.int i) (.int j) with
    | false =>
      walk_at "wp"
      rw [ht] at hQ
      exact hQ _ _ ⟨rfl, rfl⟩
    | true =>
      obtain ⟨i', j', e1, e2, h3, h4, h5, h6, h7⟩ := areTwo_of ht
      cases e1; cases e2
      rw [ht] at hQ
      walk_at "wp"
      refine call0 (xs, i, j) rfl rfl ⟨h4, h5, h6, h2⟩ ?_
      rintro _ _ ⟨rfl, rfl⟩
      walk_at "wp"
      cases he : endB (xs.getD i 0) (xs.getD j 0) with
      | none =>
        rw [he] at hQ
        simp only [↓d_sSeq, ↓d_sAsg, ↓d_sExpr, ↓d_sRet, ↓d_sRetN, ↓d_sNext, ↓d_sAug, ↓d_sPar, ↓d_sBreak, ↓d_sCont, ↓d_wTB, ↓d_wTV, ↓d_wNotT, ↓d_wNotE, ↓d_w1, ↓d_w2, ↓d_wN, ↓d_wC, ↓d_wVar, ↓d_wMove, ↓d_wMut, ↓d_wSl, ↓d_oTmp, ↓d_oLoc, ↓d_aNil, ↓d_aCons, ↓d_aRev, res, ress, callA, takeA, nextR, backA, putB, ↓d_gN, ↓d_gTp, ↓d_gsCons, ↓d_gsNil, ↓d_gIx, canSet_eq, free_un, free_sh1, free_ow1, free_fr1, okR, okM, ↓d_pNone, ↓d_pInt, ↓d_fAdd, ↓d_fSub, ↓d_fMul, ↓d_fDiv, ↓d_fMod, ↓d_fPow, ↓d_fShr, ↓d_fShl, ↓d_fAnd, ↓d_fNeg, ↓d_fCmp, ↓d_fLt, ↓d_fLe, ↓d_fGt, ↓d_fGe, ↓d_fIs, ↓d_fIx, ↓d_fIxK, ↓d_fLen, ↓d_fLenK, ↓d_fAbs, ↓fIntOf_bl, ↓fIntOf_int, b2i_true, b2i_false, ↓d_fAddI, ↓d_fMulI, ↓d_fLst, ↓d_fTup, shs, fSeq, fZip, fRev, ↓d_mAppend, ↓d_mExtend, ↓d_mPop0, ↓d_mPopAt, D.isLst, locs, lend, lendI, lent, home, homeI, back1, wipeR, unwipe, ↓d_homeD, wYes, noX, Option.toList, List.getElem?_cons_zero, List.getElem?_cons_succ, List.set_cons_zero, List.set_cons_succ, List.length_cons, List.length_nil, List.headD_cons, List.headD_nil, List.tail_cons, List.tail_nil, List.reverse_cons, List.reverse_nil, List.nil_append, List.cons_append, Nat.zero_add, Bool.false_eq_true, if_true, if_false, ite_true, ite_false, List.contains_cons, List.contains_nil, initR, edOf, outsOf, slotR, List.map_cons, List.map_nil, List.replicate_succ, List.replicate_zero, List.append_nil, Nat.reduceAdd, Nat.reduceSub, Nat.reduceMul, FS_pm, FS_ar, Mo.own, sI, sD, nv, iv, ↓d_fListOf, ↓d_fTupOf, ↓d_parW1, ↓d_parW2, ↓d_sRaise, ↓sIf_eq, ↓wIf_eq, ↓wAndT_eq, ↓wOrT_eq, ↓wAndE_eq, ↓wOrE_eq, ↓sFor_eq, ↓wComp_eq, ↓wCall_eq, ↓sWhile_eq, ↓turnW_eq, brP_true, brP_false, true_and, and_true, pair_eta, atI_0, atI_1, atI_2, atI_3, natsD_cons, natsD_nil, decide_true, decide_false, Bool.not_true, Bool.not_false, Bool.true_xor, Bool.false_xor, Bool.xor_self, few_eq, few_lt, PowOk_iff, Nat.reduceLeDiff, Int.reduceLE, Int.reduceLT, Int.reduceAbs, Int.reduceMul, Int.reduceAdd, Int.reduceSub, Int.reduceNeg, Int.reduceDiv, Int.reduceMod, ↓fEq_int, ↓fEq_str, ↓fEq_bl, ↓fMax2, ↓fMin2, rowD, natsD_len, Nat.reducePow, Nat.reduceLT, Int.reduceToNat, Int.reducePow, and_self, Int.zero_add, List.getD_cons_zero, List.getD_cons_succ, ne_shfr, ne_owfr, ne_bofr, ne_lnfr, Int.toNat_natCast, Nat.one_mul, Nat.reduceBEq, reduceIte, ↓reduceIte, ↓wChain_eq, ↓d_fIsi, ↓d_fRevL, ↓d_fRgL, ↓d_fRgT, tyD, isiB, String.reduceBEq, Bool.or_true, Bool.true_or, Bool.or_false, Bool.false_or, Bool.and_true, Bool.true_and, Bool.and_false, Bool.false_and, ↓fEq_row, ↓fEq_nats, ↓fEq_nats0, rng_nats, ↓fSum_row, ↓fSum_nats, onD, D.isNon]
        exact hQ _ _ ⟨rfl, rfl⟩
      | some m =>
        rw [he] at hQ
        simp only [↓d_sSeq, ↓d_sAsg, ↓d_sExpr, ↓d_sRet, ↓d_sRetN, ↓d_sNext, ↓d_sAug, ↓d_sPar, ↓d_sBreak, ↓d_sCont, ↓d_wTB, ↓d_wTV, ↓d_wNotT, ↓d_wNotE, ↓d_w1, ↓d_w2, ↓d_wN, ↓d_wC, ↓d_wVar, ↓d_wMove, ↓d_wMut, ↓d_wSl, ↓d_oTmp, ↓d_oLoc, ↓d_aNil, ↓d_aCons, ↓d_aRev, res, ress, callA, takeA, nextR, backA, putB, ↓d_gN, ↓d_gTp, ↓d_gsCons, ↓d_gsNil, ↓d_gIx, canSet_eq, free_un, free_sh1, free_ow1, free_fr1, okR, okM, ↓d_pNone, ↓d_pInt, ↓d_fAdd, ↓d_fSub, ↓d_fMul, ↓d_fDiv, ↓d_fMod, ↓d_fPow, ↓d_fShr, ↓d_fShl, ↓d_fAnd, ↓d_fNeg, ↓d_fCmp, ↓d_fLt, ↓d_fLe, ↓d_fGt, ↓d_fGe, ↓d_fIs, ↓d_fIx, ↓d_fIxK, ↓d_fLen, ↓d_fLenK, ↓d_fAbs, ↓fIntOf_bl, ↓fIntOf_int, b2i_true, b2i_false, ↓d_fAddI, ↓d_fMulI, ↓d_fLst, ↓d_fTup, shs, fSeq, fZip, fRev, ↓d_mAppend, ↓d_mExtend, ↓d_mPop0, ↓d_mPopAt, D.isLst, locs, lend, lendI, lent, home, homeI, back1, wipeR, unwipe, ↓d_homeD, wYes, noX, Option.toList, List.getElem?_cons_zero, List.getElem?_cons_succ, List.set_cons_zero, List.set_cons_succ, List.length_cons, List.length_nil, List.headD_cons, List.headD_nil, List.tail_cons, List.tail_nil, List.reverse_cons, List.reverse_nil, List.nil_append, List.cons_append, Nat.zero_add, Bool.false_eq_true, if_true, if_false, ite_true, ite_false, List.contains_cons, List.contains_nil, initR, edOf, outsOf, slotR, List.map_cons, List.map_nil, List.replicate_succ, List.replicate_zero, List.append_nil, Nat.reduceAdd, Nat.reduceSub, Nat.reduceMul, FS_pm, FS_ar, Mo.own, sI, sD, nv, iv, ↓d_fListOf, ↓d_fTupOf, ↓d_parW1, ↓d_parW2, ↓d_sRaise, ↓sIf_eq, ↓wIf_eq, ↓wAndT_eq, ↓wOrT_eq, ↓wAndE_eq, ↓wOrE_eq, ↓sFor_eq, ↓wComp_eq, ↓wCall_eq, ↓sWhile_eq, ↓turnW_eq, brP_true, brP_false, true_and, and_true, pair_eta, atI_0, atI_1, atI_2, atI_3, natsD_cons, natsD_nil, decide_true, decide_false, Bool.not_true, Bool.not_false, Bool.true_xor, Bool.false_xor, Bool.xor_self, few_eq, few_lt, PowOk_iff, Nat.reduceLeDiff, Int.reduceLE, Int.reduceLT, Int.reduceAbs, Int.reduceMul, Int.reduceAdd, Int.reduceSub, Int.reduceNeg, Int.reduceDiv, Int.reduceMod, ↓fEq_int, ↓fEq_str, ↓fEq_bl, ↓fMax2, ↓fMin2, rowD, natsD_len, Nat.reducePow, Nat.reduceLT, Int.reduceToNat, Int.reducePow, and_self, Int.zero_add, List.getD_cons_zero, List.getD_cons_succ, ne_shfr, ne_owfr, ne_bofr, ne_lnfr, Int.toNat_natCast, Nat.one_mul, Nat.reduceBEq, reduceIte, ↓reduceIte, ↓wChain_eq, ↓d_fIsi, ↓d_fRevL, ↓d_fRgL, ↓d_fRgT, tyD, isiB, String.reduceBEq, Bool.or_true, Bool.true_or, Bool.or_false, Bool.false_or, Bool.and_true, Bool.true_and, Bool.and_false, Bool.false_and, ↓fEq_row, ↓fEq_nats, ↓fEq_nats0, rng_nats, ↓fSum_row, ↓fSum_nats, onD, D.isNon]
        refine hQ _ _ ⟨?_, rfl⟩
        simp [within]
def ranL (xs : List Nat) (i j k : Nat) : List Nat := (xs.set i (pb (xs.getD i 0) (xs.getD j 0) k).1).set j (pb (xs.getD i 0) (xs.getD j 0) k).2
theorem mayRun_of {xs : List Nat} {d : D} (h : mayRun xs d = true) : ∃ i j k : Nat, d = .tup [.int i, .int j, .int k] ∧ i ≠ j ∧ i < xs.length ∧ j < xs.length ∧ 0 < xs.getD i 0 ∧ 0 < xs.getD j 0 ∧ within k (endB (xs.getD i 0) (xs.getD j 0)) = true := by
  unfold mayRun at h
  rw [Bool.and_eq_true] at h
  obtain ⟨i, j, k, rfl, hij⟩ := isRun_of h.1
  have h2 := h.2
  simp only [Bool.and_eq_true, Int.toNat_natCast] at h2
  obtain ⟨i', j', e1, e2, h3, h4, h5, h6, h7⟩ := areTwo_of h2.1
  cases e1; cases e2
  exact ⟨i, j, k, rfl, hij, h4, h5, h6, h7, h2.2⟩
abbrev sp_ran : FSpec := FS (α := List Nat × D) 2 [] (fun a => [(.sh, rowD a.1), (.sh, a.2)]) (fun a => runPre a.2 = true ∧ (∀ x ∈ a.1, x < 2 ^ 200) ∧ a.1.length ≤ 1000)
  (fun a r o => mayRun a.1 a.2 = true ∧ (∀ i j k : Nat, a.2 = .tup [.int i, .int j, .int k] → r = (.sh, rowD (ranL a.1 i j k))) ∧ o = []) (fun a x o => mayRun a.1 a.2 = false ∧ x = "NoDeed" ∧ o = [])
def w_ran (kl : Kl) : WS :=
(sSeq (sIf (wNotT (wTV (wCall sp_may_run (aCons (oLoc 0) (aCons (oLoc 1) aNil)))))
(sRaise "NoDeed")
sNext)
(sSeq (sAsg (wVar 1) (gTp 3 (gsCons (gN 2) (gsCons (gN 3) (gsCons (gN 4) gsNil)))))
(sSeq (sAsg (wCall sp_pair_behind (aCons (oTmp (w2 (fIxK kl) (oLoc 0) (oLoc 2))) (aCons (oTmp (w2 (fIxK kl) (oLoc 0) (oLoc 3))) (aCons (oLoc 4) aNil)))) (gTp 2 (gsCons (gN 5) (gsCons (gN 6) gsNil))))
(sRet (wCall sp_with_two (aCons (oLoc 0) (aCons (oLoc 2) (aCons (oLoc 3) (aCons (oLoc 5) (aCons (oLoc 6) aNil))))))))))
theorem vc_ran (kl : Kl) : VC sp_ran 7 (w_ran kl) := FS.vcX fun ⟨xs, d⟩ hp Q E hQ hE => by
  obtain ⟨h1, h2, hl⟩ := hp
  simp only at h1 h2 hl hQ hE
  unfold w_ran
  walk_at "wp"
  refine call0 (xs, d) rfl rfl ⟨h1, h2⟩ ?_
  rintro _ _ ⟨rfl, rfl⟩
  walk_at "wp"
  cases hm : mayRun xs d with
  | false =>
    walk_at "wp"
    exact hE _ _ ⟨hm, rfl, rfl⟩
  | true =>
    obtain ⟨i, j, k, rfl, h3, h4, h5, h6, h7, h8⟩ := mayRun_of hm
    have g1 := atI_nats (getD_get (xs := xs) (i := i) h4)
    have g2 := atI_nats (getD_get (xs := xs) (i := j) h5)
    simp only [↓d_sSeq, ↓d_sAsg, ↓d_sExpr, ↓d_sRet, ↓d_sRetN, ↓d_sNext, ↓d_sAug, ↓d_sPar, ↓d_sBreak, ↓d_sCont, ↓d_wTB, ↓d_wTV, ↓d_wNotT, ↓d_wNotE, ↓d_w1, ↓d_w2, ↓d_wN, ↓d_wC, ↓d_wVar, ↓d_wMove, ↓d_wMut, ↓d_wSl, ↓d_oTmp, ↓d_oLoc, ↓d_aNil, ↓d_aCons, ↓d_aRev, res, ress, callA, takeA, nextR, backA, putB, ↓d_gN, ↓d_gTp, ↓d_gsCons, ↓d_gsNil, ↓d_gIx, canSet_eq, free_un, free_sh1, free_ow1, free_fr1, okR, okM, ↓d_pNone, ↓d_pInt, ↓d_fAdd, ↓d_fSub, ↓d_fMul, ↓d_fDiv, ↓d_fMod, ↓d_fPow, ↓d_fShr, ↓d_fShl, ↓d_fAnd, ↓d_fNeg, ↓d_fCmp, ↓d_fLt, ↓d_fLe, ↓d_fGt, ↓d_fGe, ↓d_fIs, ↓d_fIx, ↓d_fIxK, ↓d_fLen, ↓d_fLenK, ↓d_fAbs, ↓fIntOf_bl, ↓fIntOf_int, b2i_true, b2i_false, ↓d_fAddI, ↓d_fMulI, ↓d_fLst, ↓d_fTup, shs, fSeq, fZip, fRev, ↓d_mAppend, ↓d_mExtend, ↓d_mPop0, ↓d_mPopAt, D.isLst, locs, lend, lendI, lent, home, homeI, back1, wipeR, unwipe, ↓d_homeD, wYes, noX, Option.toList, List.getElem?_cons_zero, List.getElem?_cons_succ, List.set_cons_zero, List.set_cons_succ, List.length_cons, List.length_nil, List.headD_cons, List.headD_nil, List.tail_cons, List.tail_nil, List.reverse_cons, List.reverse_nil, List.nil_append, List.cons_append, Nat.zero_add, Bool.false_eq_true, if_true, if_false, ite_true, ite_false, List.contains_cons, List.contains_nil, initR, edOf, outsOf, slotR, List.map_cons, List.map_nil, List.replicate_succ, List.replicate_zero, List.append_nil, Nat.reduceAdd, Nat.reduceSub, Nat.reduceMul, FS_pm, FS_ar, Mo.own, sI, sD, nv, iv, ↓d_fListOf, ↓d_fTupOf, ↓d_parW1, ↓d_parW2, ↓d_sRaise, ↓sIf_eq, ↓wIf_eq, ↓wAndT_eq, ↓wOrT_eq, ↓wAndE_eq, ↓wOrE_eq, ↓sFor_eq, ↓wComp_eq, ↓wCall_eq, ↓sWhile_eq, ↓turnW_eq, brP_true, brP_false, true_and, and_true, pair_eta, atI_0, atI_1, atI_2, atI_3, natsD_cons, natsD_nil, decide_true, decide_false, Bool.not_true, Bool.not_false, Bool.true_xor, Bool.false_xor, Bool.xor_self, few_eq, few_lt, PowOk_iff, Nat.reduceLeDiff, Int.reduceLE, Int.reduceLT, Int.reduceAbs, Int.reduceMul, Int.reduceAdd, Int.reduceSub, Int.reduceNeg, Int.reduceDiv, Int.reduceMod, ↓fEq_int, ↓fEq_str, ↓fEq_bl, ↓fMax2, ↓fMin2, rowD, natsD_len, Nat.reducePow, Nat.reduceLT, Int.reduceToNat, Int.reducePow, and_self, Int.zero_add, List.getD_cons_zero, List.getD_cons_succ, ne_shfr, ne_owfr, ne_bofr, ne_lnfr, Int.toNat_natCast, Nat.one_mul, Nat.reduceBEq, reduceIte, ↓reduceIte, ↓wChain_eq, ↓d_fIsi, ↓d_fRevL, ↓d_fRgL, ↓d_fRgT, tyD, isiB, String.reduceBEq, Bool.or_true, Bool.true_or, Bool.or_false, Bool.false_or, Bool.and_true, Bool.true_and, Bool.and_false, Bool.false_and, ↓fEq_row, ↓fEq_nats, ↓fEq_nats0, rng_nats, ↓fSum_row, ↓fSum_nats, g1, g2]
    refine call0 (xs.getD i 0, xs.getD j 0, k) rfl rfl ⟨by simp only; omega, getD_lt h2 h4, getD_lt h2 h5⟩ ?_
    rintro _ _ ⟨rfl, rfl⟩
    walk_at "wp"
    refine call0 (xs, i, j, (pb (xs.getD i 0) (xs.getD j 0) k).1, (pb (xs.getD i 0) (xs.getD j 0) k).2) rfl rfl ⟨h4, h5, few hl⟩ ?_
    rintro _ _ ⟨rfl, rfl⟩
    walk_at "wp"
    refine hQ _ _ ⟨hm, fun i' j' k' e => ?_, rfl⟩
    injection e with e
    injection e with e1 e
    injection e with e2 e
    injection e with e3 e
    injection e1 with e1
    injection e2 with e2
    injection e3 with e3
    have : i = i' := by omega
    have : j = j' := by omega
    have : k = k' := by omega
    subst_vars
    rfl
end G
end
section
set_option Elab.async false
set_option linter.all false
set_option maxRecDepth 100000
namespace G
theorem cop_two {m : Nat} (h : m % 2 = 1) (f : Nat) : Nat.Coprime m (2 ^ f) := by
  refine Nat.Coprime.pow_right f ?_
  have h1 : Nat.gcd m 2 ∣ 2 := Nat.gcd_dvd_right m 2
  have h2 : Nat.gcd m 2 ∣ m := Nat.gcd_dvd_left m 2
  have h3 : Nat.gcd m 2 ≤ 2 := Nat.le_of_dvd (by decide) h1
  have h4 : 0 < Nat.gcd m 2 := Nat.gcd_pos_of_pos_right _ (by decide)
  have : Nat.gcd m 2 = 1 ∨ Nat.gcd m 2 = 2 := by omega
  rcases this with h5 | h5
  · exact h5
  · rw [h5] at h2
    omega
theorem dvd_pow {p f : Nat} (hp : 0 < p) : p ∣ 2 ^ f ↔ od p = 1 ∧ tw p ≤ f := by
  obtain ⟨e, ho⟩ := tw_od p hp
  constructor
  · intro h
    have h1 : od p ∣ 2 ^ f := Nat.dvd_trans ⟨2 ^ tw p, e⟩ h
    have h2 : od p = 1 := Nat.Coprime.eq_one_of_dvd (cop_two ho f) h1
    refine ⟨h2, ?_⟩
    rw [h2, Nat.one_mul] at e
    rw [e] at h
    exact (Nat.pow_dvd_pow_iff_le_right (by decide)).mp h
  · rintro ⟨h1, h2⟩
    rw [h1, Nat.one_mul] at e
    rw [e]
    exact Nat.pow_dvd_pow 2 h2
theorem end_dvd {a b f : Nat} (h : 0 < a + b) (hb : 0 < b) : (b * 2 ^ f) % (a + b) = 0 ↔ od ((a + b) / Nat.gcd a b) = 1 ∧ tw ((a + b) / Nat.gcd a b) ≤ f := by
  have hg := gcd_pos2 h
  rw [← dvd_pow (parts_pos h)]
  have hs : Nat.gcd a b ∣ a + b := Nat.dvd_add (Nat.gcd_dvd_left a b) (Nat.gcd_dvd_right a b)
  have hgb : Nat.gcd a b ∣ b := Nat.gcd_dvd_right a b
  have e1 : Nat.gcd a b * ((a + b) / Nat.gcd a b) = a + b := Nat.mul_div_cancel' hs
  have e2 : Nat.gcd a b * (b / Nat.gcd a b) = b := Nat.mul_div_cancel' hgb
  have cop : Nat.Coprime ((a + b) / Nat.gcd a b) (b / Nat.gcd a b) := by
    have : Nat.gcd a b = Nat.gcd (a + b) b := by simp
    unfold Nat.Coprime
    have h5 : Nat.gcd ((a + b) / Nat.gcd a b) (b / Nat.gcd a b) = Nat.gcd (a + b) b / Nat.gcd a b := Nat.gcd_div hs hgb
    rw [h5, ← this]
    exact Nat.div_self hg
  rw [← Nat.dvd_iff_mod_eq_zero]
  generalize (a + b) / Nat.gcd a b = p at *
  generalize b / Nat.gcd a b = β at *
  generalize Nat.gcd a b = g at *
  rw [← e1, ← e2, Nat.mul_assoc, Nat.mul_dvd_mul_iff_left hg]
  exact ⟨fun h => cop.dvd_of_dvd_mul_left h, fun h => Nat.dvd_trans h (Nat.dvd_mul_left _ _)⟩
theorem within_iff {a b k : Nat} (h : 0 < a + b) (hb : 0 < b) : within k (endB a b) = true ↔ ∀ f < k, (b * 2 ^ f) % (a + b) ≠ 0 := by
  unfold endB
  constructor
  · intro hw f hf he
    obtain ⟨h1, h2⟩ := (end_dvd h hb).mp he
    rw [if_pos h1] at hw
    have : k ≤ tw ((a + b) / Nat.gcd a b) := by simpa [within] using hw
    omega
  · intro hall
    split
    · rename_i h1
      refine decide_eq_true ?_
      refine Nat.le_of_not_lt fun hlt => ?_
      exact hall _ hlt ((end_dvd h hb).mpr ⟨h1, Nat.le_refl _⟩)
    · rfl
theorem pb_sum (a b k : Nat) (h : 0 < a + b) : (pb a b k).1 + (pb a b k).2 = a + b := by
  unfold pb
  have := Nat.mod_lt (b * 2 ^ k) h
  split
  · simp only; omega
  · simp only; omega
theorem pb_zero {a b : Nat} (ha : 0 < a) (hb : 0 < b) : pb a b 0 = (a, b) := by
  unfold pb
  rw [Nat.pow_zero, Nat.mul_one, Nat.mod_eq_of_lt (by omega), if_pos hb]
  simp
theorem pb_pos {a b k : Nat} (h : 0 < a + b) (hr : (b * 2 ^ k) % (a + b) ≠ 0) : 0 < (pb a b k).1 ∧ 0 < (pb a b k).2 ∧ (pb a b k).2 = b * 2 ^ k % (a + b) := by
  have := Nat.mod_lt (b * 2 ^ k) h
  unfold pb
  generalize b * 2 ^ k % (a + b) = r at *
  rw [if_pos (by omega)]
  exact ⟨by simp only; omega, by simp only; omega, rfl⟩
theorem pb_more {a b f m : Nat} (ha : 0 < a) (hb : 0 < b) (hw : within m (endB a b) = true) (hf : f < m) :
    0 < (pb a b f).1 ∧ 0 < (pb a b f).2 ∧ within (m - f) (endB (pb a b f).1 (pb a b f).2) = true ∧ pb (pb a b f).1 (pb a b f).2 (m - f) = pb a b m := by
  have h : 0 < a + b := by omega
  have hall := (within_iff h hb).mp hw
  obtain ⟨h1, h2, h3⟩ := pb_pos h (hall f hf)
  have hs := pb_sum a b f h
  have step : ∀ e, ((pb a b f).2 * 2 ^ e) % (a + b) = (b * 2 ^ (f + e)) % (a + b) := fun e => by
    rw [h3, Nat.mod_mul_mod, Nat.mul_assoc, ← Nat.pow_add]
  refine ⟨h1, h2, ?_, ?_⟩
  · rw [within_iff (by omega) h2, hs]
    intro e he
    rw [step e]
    exact hall _ (by omega)
  · have e1 := step (m - f)
    rw [show f + (m - f) = m by omega] at e1
    unfold pb at hs e1 ⊢
    rw [hs, e1]
end G
end
section
set_option Elab.async false
set_option linter.all false
set_option maxRecDepth 100000
set_option maxHeartbeats 1000000
set_option exponentiation.threshold 100000
namespace G
open PySem PySem.Spec L2
mutual
def RpD : D → Prop
  | .non => True
  | .bl _ => True
  | .int i => Small i
  | .str x => (x.cps.toList.all fun c => decide (c < 16 ^ 8)) = true
  | .lst ds => RpDs ds
  | .tup ds => RpDs ds
  | _ => False
def RpDs : List D → Prop
  | [] => True
  | d :: ds => RpD d ∧ RpDs ds
end
mutual
def bkD : D → Nat
  | .str x => x.cps.size
  | .lst ds => bkDs ds
  | .tup ds => bkDs ds
  | _ => 0
def bkDs : List D → Nat
  | [] => 0
  | d :: ds => bkD d + 1 + bkDs ds
end
mutual
theorem toPy_rp : ∀ d : D, RpD d → ∃ p, toPy d = some p ∧ p.showable = true ∧ p.hasDict = false ∧ p.leavesShort 600 = true ∧ p.bulk = bkD d ∧ p.depth = depD d
  | .non, _ => ⟨.none, rfl, rfl, rfl, rfl, rfl, rfl⟩
  | .bl b, _ => ⟨.bool b, rfl, rfl, rfl, rfl, rfl, rfl⟩
  | .int i, h => by
    have h : Small i := h
    refine ⟨.int i, rfl, ?_, rfl, ?_, rfl, rfl⟩
    · unfold PyData.showable; exact decide_eq_true h.log
    · unfold PyData.leavesShort; exact decide_eq_true h.len
  | .str x, h => ⟨.str x, rfl, rfl, rfl, by unfold PyData.leavesShort; unfold RpD at h; exact h, rfl, rfl⟩
  | .lst ds, h => by
    unfold RpD at h
    obtain ⟨ps, h1, h2, h3, h4, h5, h6⟩ := toPys_rp ds h
    refine ⟨.list ps, ?_, ?_, ?_, ?_, ?_, ?_⟩
    · unfold toPy; rw [h1]
    · unfold PyData.showable; exact h2
    · unfold PyData.hasDict; exact h3
    · unfold PyData.leavesShort; exact h4
    · unfold PyData.bulk bkD; exact h5
    · unfold PyData.depth depD; rw [h6]
  | .tup ds, h => by
    unfold RpD at h
    obtain ⟨ps, h1, h2, h3, h4, h5, h6⟩ := toPys_rp ds h
    refine ⟨.tuple ps, ?_, ?_, ?_, ?_, ?_, ?_⟩
    · unfold toPy; rw [h1]
    · unfold PyData.showable; exact h2
    · unfold PyData.hasDict; exact h3
    · unfold PyData.leavesShort; exact h4
    · unfold PyData.bulk bkD; exact h5
    · unfold PyData.depth depD; rw [h6]
  | .dct _, h => by unfold RpD at h; exact h.elim
  | .set _, h => by unfold RpD at h; exact h.elim
  | .obj _, h => by unfold RpD at h; exact h.elim
theorem toPys_rp : ∀ ds : List D, RpDs ds → ∃ ps, toPys ds = some ps ∧ PyData.showableAll ps = true ∧ PyData.hasDictAll ps = false ∧ PyData.leavesShortAll 600 ps = true ∧ PyData.bulkAll ps = bkDs ds ∧ PyData.depthAll ps = depDs ds
  | [], _ => ⟨[], by unfold toPys; rfl, by unfold PyData.showableAll; rfl, by unfold PyData.hasDictAll; rfl, by unfold PyData.leavesShortAll; rfl, by unfold PyData.bulkAll bkDs; rfl, by unfold PyData.depthAll depDs; rfl⟩
  | d :: ds, h => by
    unfold RpDs at h
    obtain ⟨p, a1, a2, a3, a4, a5, a6⟩ := toPy_rp d h.1
    obtain ⟨ps, b1, b2, b3, b4, b5, b6⟩ := toPys_rp ds h.2
    refine ⟨p :: ps, ?_, ?_, ?_, ?_, ?_, ?_⟩
    · unfold toPys; rw [a1, b1]
    · unfold PyData.showableAll; rw [a2, b2]; rfl
    · unfold PyData.hasDictAll; rw [a3, b3]; rfl
    · unfold PyData.leavesShortAll; rw [a4, b4]; rfl
    · unfold PyData.bulkAll bkDs; rw [a5, b5]
    · unfold PyData.depthAll depDs; rw [a6, b6]
end
def rpr (d : D) : Str := match toPy d with
  | some p => p.shown
  | none => ""
theorem fRepr_eq {m : Mo} {d : D} {Q : R → Prop} (h : RpD d) (hb : bkD d ≤ 10000) (hd : depD d ≤ 60) : fRepr [(m, d)] Q = Q (.sh, .str (rpr d)) := by
  obtain ⟨p, h1, h2, h3, h4, h5, h6⟩ := toPy_rp d h
  have hz : 602 * 10000 + 600 ≤ sizeLine := by rw [sizeLine_eq]; decide
  have hl := PyData.shown_le_bulk 600 (by decide) p h4
  have ok : ReprOk p := ⟨h2, h3, by rw [h6]; exact hd, by rw [h5] at hl; omega⟩
  unfold fRepr rpr
  simp only [h1]
  exact propext ⟨fun z => z.2, fun z => ⟨ok, z⟩⟩
theorem RpDs_nats {xs : List Nat} (h : ∀ x ∈ xs, x < 2 ^ 1900) : RpDs (natsD xs) := by
  induction xs with
  | nil => unfold natsD RpDs; trivial
  | cons x xs ih =>
    rw [natsD_cons]
    unfold RpDs RpD
    exact ⟨small_nat (h x List.mem_cons_self), ih fun y hy => h y (List.mem_cons_of_mem _ hy)⟩
theorem bkDs_nats (xs : List Nat) : bkDs (natsD xs) = xs.length := by
  induction xs with
  | nil => unfold natsD bkDs; rfl
  | cons x xs ih =>
    rw [natsD_cons]
    unfold bkDs bkD
    rw [ih, List.length_cons]; omega
theorem fRepr_row {m : Mo} {xs : List Nat} {Q : R → Prop} (h : ∀ x ∈ xs, x < 2 ^ 200) (hl : xs.length ≤ 1000) : fRepr [(m, .tup (natsD xs))] Q = Q (.sh, .str (rpr (.tup (natsD xs)))) :=
  fRepr_eq (by unfold RpD; exact RpDs_nats fun x hx => small200 (h x hx)) (by unfold bkD; rw [bkDs_nats]; omega) (by unfold depD; rw [depDs_nats]; decide)
theorem fRepr_nats {m : Mo} {xs : List Nat} {Q : R → Prop} (h : ∀ x ∈ xs, x < 2 ^ 200) (hl : xs.length ≤ 1000) : fRepr [(m, .lst (natsD xs))] Q = Q (.sh, .str (rpr (.lst (natsD xs)))) :=
  fRepr_eq (by unfold RpD; exact RpDs_nats fun x hx => small200 (h x hx)) (by unfold bkD; rw [bkDs_nats]; omega) (by unfold depD; rw [depDs_nats]; decide)
theorem fRepr_bl {m : Mo} {b : Bool} {Q : R → Prop} : fRepr [(m, .bl b)] Q = Q (.sh, .str (rpr (.bl b))) := fRepr_eq (by unfold RpD; trivial) (by unfold bkD; decide) (by unfold depD; decide)
theorem fRepr_non {m : Mo} {Q : R → Prop} : fRepr [(m, .non)] Q = Q (.sh, .str (rpr .non)) := fRepr_eq (by unfold RpD; trivial) (by unfold bkD; decide) (by unfold depD; decide)
theorem fRepr_int {m : Mo} {i : Int} {Q : R → Prop} (h : Small i) : fRepr [(m, .int i)] Q = Q (.sh, .str (rpr (.int i))) := fRepr_eq (by unfold RpD; exact h) (by unfold bkD; decide) (by unfold depD; decide)
theorem smallI {i : Int} (h : -(2 ^ 250) < i ∧ i < 2 ^ 250) : Small i := by
  have : i.natAbs < 2 ^ 250 := by omega
  exact small250 this
theorem fRepr_on {m : Mo} {o : Option Nat} {Q : R → Prop} (h : ∀ n, o = some n → n < 2 ^ 200) : fRepr [(m, onD o)] Q = Q (.sh, .str (rpr (onD o))) := by
  cases o with
  | none => exact fRepr_non
  | some n => exact fRepr_int (small_nat (small200 (h n rfl)))
theorem rpr_bl (a b : Bool) : rpr (.bl a) = rpr (.bl b) ↔ a = b := by
  cases a <;> cases b <;> simp <;> decide +kernel
end G
end
section
set_option Elab.async false
set_option linter.all false
set_option maxRecDepth 100000
set_option maxHeartbeats 1000000
set_option exponentiation.threshold 100000
namespace G
open PySem PySem.Spec L2
local macro_rules | `(tactic| walk_at "wk") => `(tactic| simp only [↓sSeq_eq, ↓d_sAsg, ↓d_sExpr, ↓d_sRet, ↓d_sRetN, ↓d_sNext, ↓d_sAug, ↓d_sPar, ↓d_sBreak, ↓d_sCont, ↓d_wTB, ↓d_wTV, ↓d_wNotT, ↓d_wNotE, ↓d_w1, ↓d_w2, ↓d_wN, ↓d_wC, ↓d_wVar, ↓d_wMove, ↓d_wMut, ↓d_wSl, ↓d_oTmp, ↓d_oLoc, ↓d_aNil, ↓d_aCons, ↓d_aRev, res, ress, callA, takeA, nextR, backA, putB, ↓d_gN, ↓d_gTp, ↓d_gsCons, ↓d_gsNil, ↓d_gIx, canSet_eq, free_un, free_sh1, free_ow1, free_fr1, okR, okM, ↓d_pNone, ↓d_pInt, ↓d_fAdd, ↓d_fSub, ↓d_fMul, ↓d_fDiv, ↓d_fMod, ↓d_fPow, ↓d_fShr, ↓d_fShl, ↓d_fAnd, ↓d_fNeg, ↓d_fCmp, ↓d_fLt, ↓d_fLe, ↓d_fGt, ↓d_fGe, ↓d_fIs, ↓d_fIx, ↓d_fIxK, ↓d_fLen, ↓d_fLenK, ↓d_fAbs, ↓fIntOf_bl, ↓fIntOf_int, b2i_true, b2i_false, ↓d_fAddI, ↓d_fMulI, ↓d_fLst, ↓d_fTup, shs, fSeq, fZip, fRev, ↓d_mAppend, ↓d_mExtend, ↓d_mPop0, ↓d_mPopAt, D.isLst, locs, lend, lendI, lent, home, homeI, back1, wipeR, unwipe, ↓d_homeD, wYes, noX, Option.toList, List.getElem?_cons_zero, List.getElem?_cons_succ, List.set_cons_zero, List.set_cons_succ, List.length_cons, List.length_nil, List.headD_cons, List.headD_nil, List.tail_cons, List.tail_nil, List.reverse_cons, List.reverse_nil, List.nil_append, List.cons_append, Nat.zero_add, Bool.false_eq_true, if_true, if_false, ite_true, ite_false, List.contains_cons, List.contains_nil, initR, edOf, outsOf, slotR, List.map_cons, List.map_nil, List.replicate_succ, List.replicate_zero, List.append_nil, Nat.reduceAdd, Nat.reduceSub, Nat.reduceMul, FS_pm, FS_ar, Mo.own, sI, sD, nv, iv, ↓d_fListOf, ↓d_fTupOf, ↓d_parW1, ↓d_parW2, ↓d_sRaise, ↓sIf_eq, ↓wIf_eq, ↓wAndT_eq, ↓wOrT_eq, ↓wAndE_eq, ↓wOrE_eq, ↓sFor_eq, ↓wComp_eq, ↓wCall_eq, ↓sWhile_eq, ↓turnW_eq, brP_true, brP_false, true_and, and_true, pair_eta, atI_0, atI_1, atI_2, atI_3, natsD_cons, natsD_nil, decide_true, decide_false, Bool.not_true, Bool.not_false, Bool.true_xor, Bool.false_xor, Bool.xor_self, few_eq, few_lt, PowOk_iff, Nat.reduceLeDiff, Int.reduceLE, Int.reduceLT, Int.reduceAbs, Int.reduceMul, Int.reduceAdd, Int.reduceSub, Int.reduceNeg, Int.reduceDiv, Int.reduceMod, ↓fEq_int, ↓fEq_str, ↓fEq_bl, ↓fMax2, ↓fMin2, rowD, natsD_len, Nat.reducePow, Nat.reduceLT, Int.reduceToNat, Int.reducePow, and_self, Int.zero_add, List.getD_cons_zero, List.getD_cons_succ, ne_shfr, ne_owfr, ne_bofr, ne_lnfr, Int.toNat_natCast, Nat.one_mul, Nat.reduceBEq, reduceIte, ↓reduceIte, ↓wChain_eq, ↓d_fIsi, ↓d_fRevL, ↓d_fRgL, ↓d_fRgT, tyD, isiB, String.reduceBEq, Bool.or_true, Bool.true_or, Bool.or_false, Bool.false_or, Bool.and_true, Bool.true_and, Bool.and_false, Bool.false_and, ↓fEq_row, ↓fEq_nats, ↓fEq_nats0, rng_nats, ↓fSum_row, ↓fSum_nats])
local macro_rules | `(tactic| walk_at "wp") => `(tactic| simp only [↓d_sSeq, ↓d_sAsg, ↓d_sExpr, ↓d_sRet, ↓d_sRetN, ↓d_sNext, ↓d_sAug, ↓d_sPar, ↓d_sBreak, ↓d_sCont, ↓d_wTB, ↓d_wTV, ↓d_wNotT, ↓d_wNotE, ↓d_w1, ↓d_w2, ↓d_wN, ↓d_wC, ↓d_wVar, ↓d_wMove, ↓d_wMut, ↓d_wSl, ↓d_oTmp, ↓d_oLoc, ↓d_aNil, ↓d_aCons, ↓d_aRev, res, ress, callA, takeA, nextR, backA, putB, ↓d_gN, ↓d_gTp, ↓d_gsCons, ↓d_gsNil, ↓d_gIx, canSet_eq, free_un, free_sh1, free_ow1, free_fr1, okR, okM, ↓d_pNone, ↓d_pInt, ↓d_fAdd, ↓d_fSub, ↓d_fMul, ↓d_fDiv, ↓d_fMod, ↓d_fPow, ↓d_fShr, ↓d_fShl, ↓d_fAnd, ↓d_fNeg, ↓d_fCmp, ↓d_fLt, ↓d_fLe, ↓d_fGt, ↓d_fGe, ↓d_fIs, ↓d_fIx, ↓d_fIxK, ↓d_fLen, ↓d_fLenK, ↓d_fAbs, ↓fIntOf_bl, ↓fIntOf_int, b2i_true, b2i_false, ↓d_fAddI, ↓d_fMulI, ↓d_fLst, ↓d_fTup, shs, fSeq, fZip, fRev, ↓d_mAppend, ↓d_mExtend, ↓d_mPop0, ↓d_mPopAt, D.isLst, locs, lend, lendI, lent, home, homeI, back1, wipeR, unwipe, ↓d_homeD, wYes, noX, Option.toList, List.getElem?_cons_zero, List.getElem?_cons_succ, List.set_cons_zero, List.set_cons_succ, List.length_cons, List.length_nil, List.headD_cons, List.headD_nil, List.tail_cons, List.tail_nil, List.reverse_cons, List.reverse_nil, List.nil_append, List.cons_append, Nat.zero_add, Bool.false_eq_true, if_true, if_false, ite_true, ite_false, List.contains_cons, List.contains_nil, initR, edOf, outsOf, slotR, List.map_cons, List.map_nil, List.replicate_succ, List.replicate_zero, List.append_nil, Nat.reduceAdd, Nat.reduceSub, Nat.reduceMul, FS_pm, FS_ar, Mo.own, sI, sD, nv, iv, ↓d_fListOf, ↓d_fTupOf, ↓d_parW1, ↓d_parW2, ↓d_sRaise, ↓sIf_eq, ↓wIf_eq, ↓wAndT_eq, ↓wOrT_eq, ↓wAndE_eq, ↓wOrE_eq, ↓sFor_eq, ↓wComp_eq, ↓wCall_eq, ↓sWhile_eq, ↓turnW_eq, brP_true, brP_false, true_and, and_true, pair_eta, atI_0, atI_1, atI_2, atI_3, natsD_cons, natsD_nil, decide_true, decide_false, Bool.not_true, Bool.not_false, Bool.true_xor, Bool.false_xor, Bool.xor_self, few_eq, few_lt, PowOk_iff, Nat.reduceLeDiff, Int.reduceLE, Int.reduceLT, Int.reduceAbs, Int.reduceMul, Int.reduceAdd, Int.reduceSub, Int.reduceNeg, Int.reduceDiv, Int.reduceMod, ↓fEq_int, ↓fEq_str, ↓fEq_bl, ↓fMax2, ↓fMin2, rowD, natsD_len, Nat.reducePow, Nat.reduceLT, Int.reduceToNat, Int.reducePow, and_self, Int.zero_add, List.getD_cons_zero, List.getD_cons_succ, ne_shfr, ne_owfr, ne_bofr, ne_lnfr, Int.toNat_natCast, Nat.one_mul, Nat.reduceBEq, reduceIte, ↓reduceIte, ↓wChain_eq, ↓d_fIsi, ↓d_fRevL, ↓d_fRgL, ↓d_fRgT, tyD, isiB, String.reduceBEq, Bool.or_true, Bool.true_or, Bool.or_false, Bool.false_or, Bool.and_true, Bool.true_and, Bool.and_false, Bool.false_and, ↓fEq_row, ↓fEq_nats, ↓fEq_nats0, rng_nats, ↓fSum_row, ↓fSum_nats])
abbrev sp_comes : FSpec := FS (α := List Nat × List Nat) 2 [] (fun a => [(.sh, rowD a.1), (.sh, rowD a.2)]) (fun a => 0 < gcdL a.1 ∧ 0 < gcdL a.2 ∧ a.1.length ≤ sizeLine ∧ a.2.length ≤ sizeLine ∧ (a.1 ≠ a.2 → a.1.length = a.2.length → lastL a.1 a.2 = [] → 3 ≤ hn a.1))
  (fun a r o => r = (.sh, .bl (decide (brokenL a.1 a.2 = []))) ∧ o = []) noExc
def w_comes (kl : Kl) : WS :=
(sRet (w2 (fEq false) (oTmp (wCall sp_broken (aCons (oLoc 0) (aCons (oLoc 1) aNil)))) (oTmp (wN fTup aNil))))
theorem fEq_words0 {xs ys : List Nat} {neg : Bool} {m n : Mo} {Q : R → Prop} : fEq neg (m, .tup (strsD (brokenL xs ys))) (n, .tup []) Q = Q (.sh, .bl (neg ^^ decide (brokenL xs ys = []))) := fEq_tstrs (ys := []) brokenL_ok nofun
theorem vc_comes (kl : Kl) : VC sp_comes 2 (w_comes kl) := FS.vc fun ⟨xs, ys⟩ hp Q E hQ => by
  unfold w_comes
  walk_at "wp"
  refine call0 (xs, ys) rfl rfl hp ?_
  rintro _ _ ⟨rfl, rfl⟩
  simp only [↓d_sSeq, ↓d_sAsg, ↓d_sExpr, ↓d_sRet, ↓d_sRetN, ↓d_sNext, ↓d_sAug, ↓d_sPar, ↓d_sBreak, ↓d_sCont, ↓d_wTB, ↓d_wTV, ↓d_wNotT, ↓d_wNotE, ↓d_w1, ↓d_w2, ↓d_wN, ↓d_wC, ↓d_wVar, ↓d_wMove, ↓d_wMut, ↓d_wSl, ↓d_oTmp, ↓d_oLoc, ↓d_aNil, ↓d_aCons, ↓d_aRev, res, ress, callA, takeA, nextR, backA, putB, ↓d_gN, ↓d_gTp, ↓d_gsCons, ↓d_gsNil, ↓d_gIx, canSet_eq, free_un, free_sh1, free_ow1, free_fr1, okR, okM, ↓d_pNone, ↓d_pInt, ↓d_fAdd, ↓d_fSub, ↓d_fMul, ↓d_fDiv, ↓d_fMod, ↓d_fPow, ↓d_fShr, ↓d_fShl, ↓d_fAnd, ↓d_fNeg, ↓d_fCmp, ↓d_fLt, ↓d_fLe, ↓d_fGt, ↓d_fGe, ↓d_fIs, ↓d_fIx, ↓d_fIxK, ↓d_fLen, ↓d_fLenK, ↓d_fAbs, ↓fIntOf_bl, ↓fIntOf_int, b2i_true, b2i_false, ↓d_fAddI, ↓d_fMulI, ↓d_fLst, ↓d_fTup, shs, fSeq, fZip, fRev, ↓d_mAppend, ↓d_mExtend, ↓d_mPop0, ↓d_mPopAt, D.isLst, locs, lend, lendI, lent, home, homeI, back1, wipeR, unwipe, ↓d_homeD, wYes, noX, Option.toList, List.getElem?_cons_zero, List.getElem?_cons_succ, List.set_cons_zero, List.set_cons_succ, List.length_cons, List.length_nil, List.headD_cons, List.headD_nil, List.tail_cons, List.tail_nil, List.reverse_cons, List.reverse_nil, List.nil_append, List.cons_append, Nat.zero_add, Bool.false_eq_true, if_true, if_false, ite_true, ite_false, List.contains_cons, List.contains_nil, initR, edOf, outsOf, slotR, List.map_cons, List.map_nil, List.replicate_succ, List.replicate_zero, List.append_nil, Nat.reduceAdd, Nat.reduceSub, Nat.reduceMul, FS_pm, FS_ar, Mo.own, sI, sD, nv, iv, ↓d_fListOf, ↓d_fTupOf, ↓d_parW1, ↓d_parW2, ↓d_sRaise, ↓sIf_eq, ↓wIf_eq, ↓wAndT_eq, ↓wOrT_eq, ↓wAndE_eq, ↓wOrE_eq, ↓sFor_eq, ↓wComp_eq, ↓wCall_eq, ↓sWhile_eq, ↓turnW_eq, brP_true, brP_false, true_and, and_true, pair_eta, atI_0, atI_1, atI_2, atI_3, natsD_cons, natsD_nil, decide_true, decide_false, Bool.not_true, Bool.not_false, Bool.true_xor, Bool.false_xor, Bool.xor_self, few_eq, few_lt, PowOk_iff, Nat.reduceLeDiff, Int.reduceLE, Int.reduceLT, Int.reduceAbs, Int.reduceMul, Int.reduceAdd, Int.reduceSub, Int.reduceNeg, Int.reduceDiv, Int.reduceMod, ↓fEq_int, ↓fEq_str, ↓fEq_bl, ↓fMax2, ↓fMin2, rowD, natsD_len, Nat.reducePow, Nat.reduceLT, Int.reduceToNat, Int.reducePow, and_self, Int.zero_add, List.getD_cons_zero, List.getD_cons_succ, ne_shfr, ne_owfr, ne_bofr, ne_lnfr, Int.toNat_natCast, Nat.one_mul, Nat.reduceBEq, reduceIte, ↓reduceIte, ↓wChain_eq, ↓d_fIsi, ↓d_fRevL, ↓d_fRgL, ↓d_fRgT, tyD, isiB, String.reduceBEq, Bool.or_true, Bool.true_or, Bool.or_false, Bool.false_or, Bool.and_true, Bool.true_and, Bool.and_false, Bool.false_and, ↓fEq_row, ↓fEq_nats, ↓fEq_nats0, rng_nats, ↓fSum_row, ↓fSum_nats, fEq_words0]
  exact hQ _ _ ⟨rfl, rfl⟩
def mayD (xs : List Nat) (i j : Nat) : Bool := decide (i ≠ j) && (decide (xs.getD j 0 ≤ xs.getD i 0) && decide (0 < xs.getD j 0))
def deedL (xs : List Nat) (i j : Nat) : List Nat := (xs.set i (xs.getD i 0 - xs.getD j 0)).set j (2 * xs.getD j 0)
def deed1 (xs : List Nat) (i j : Nat) : List (List Nat) := if mayD xs i j = true then [deedL xs i j] else []
def nextL (xs : List Nat) : List (List Nat) := (List.range xs.length).flatMap fun i => (List.range xs.length).flatMap fun j => deed1 xs i j
def rowsD (rs : List (List Nat)) : List D := rs.map rowD
theorem rowsD_app (a b : List (List Nat)) : rowsD a ++ rowsD b = rowsD (a ++ b) := by simp [rowsD]
theorem rowsD_len (a : List (List Nat)) : (rowsD a).length = a.length := by simp [rowsD]
theorem mayD_of {xs : List Nat} {i j : Nat} (h : mayD xs i j = true) : i ≠ j ∧ xs.getD j 0 ≤ xs.getD i 0 ∧ 0 < xs.getD j 0 := by
  unfold mayD at h
  simpa using h
theorem deedL_len (xs : List Nat) (i j : Nat) : (deedL xs i j).length = xs.length := by simp [deedL]
theorem sumSet : ∀ {xs : List Nat} {i v a : Nat}, xs[i]? = some a → (xs.set i v).sum + a = xs.sum + v
  | [], _, _, _, h => by simp at h
  | x :: xs, 0, v, a, h => by simp at h; subst h; simp [List.set]; omega
  | x :: xs, i + 1, v, a, h => by
    have := sumSet (xs := xs) (i := i) (v := v) (a := a) (by simpa using h)
    simp [List.set]; omega
theorem deedL_sum {xs : List Nat} {i j : Nat} (hi : i < xs.length) (hj : j < xs.length) (h : mayD xs i j = true) : (deedL xs i j).sum = xs.sum := by
  obtain ⟨h1, h2, h3⟩ := mayD_of h
  have e1 := sumSet (v := xs.getD i 0 - xs.getD j 0) (getD_get hi)
  have g : (xs.set i (xs.getD i 0 - xs.getD j 0))[j]? = some (xs.getD j 0) := by rw [List.getElem?_set_ne h1]; exact getD_get hj
  have e2 := sumSet (v := 2 * xs.getD j 0) g
  unfold deedL
  omega
theorem nextL_mem {xs ys : List Nat} (h : ys ∈ nextL xs) : ∃ i j, i < xs.length ∧ j < xs.length ∧ mayD xs i j = true ∧ ys = deedL xs i j := by
  unfold nextL at h
  obtain ⟨i, hi, h⟩ := List.mem_flatMap.mp h
  obtain ⟨j, hj, h⟩ := List.mem_flatMap.mp h
  unfold deed1 at h
  split at h
  · rename_i hm
    rw [List.mem_singleton] at h
    exact ⟨i, j, List.mem_range.mp hi, List.mem_range.mp hj, hm, h⟩
  · cases h
abbrev sp_k15_deed : FSpec := FS (α := List Nat × Nat × Nat) 3 [] (fun a => [(.sh, rowD a.1), nv a.2.1, nv a.2.2]) (fun a => a.2.1 < a.1.length ∧ a.2.2 < a.1.length ∧ (∀ x ∈ a.1, x < 2 ^ 200)) (fun a r o => r = (.ow, .lst (rowsD (deed1 a.1 a.2.1 a.2.2))) ∧ o = []) noExc
def w_k15_deed (kl : Kl) : WS :=
(sSeq (sIf (wOrT (wTB (w2 (fEq false) (oLoc 1) (oLoc 2))) (wOrT (wTB (w2 fLt (oTmp (w2 (fIxK kl) (oLoc 0) (oLoc 1))) (oTmp (w2 (fIxK kl) (oLoc 0) (oLoc 2))))) (wTB (w2 (fEq false) (oTmp (w2 (fIxK kl) (oLoc 0) (oLoc 2))) (oTmp (wC (.int 0)))))))
(sRet (wN fLst aNil))
sNext)
(sSeq (sAsg (wN fListOf (aCons (oLoc 0) aNil)) (gN 3))
(sSeq (sAsg (wN fTup (aCons (oTmp (w2 fSub (oTmp (w2 (fIxK kl) (oLoc 0) (oLoc 1))) (oTmp (w2 (fIxK kl) (oLoc 0) (oLoc 2))))) (aCons (oTmp (w2 fMul (oTmp (wC (.int 2))) (oTmp (w2 (fIxK kl) (oLoc 0) (oLoc 2))))) aNil))) (gTp 2 (gsCons (gIx 3 (oLoc 1)) (gsCons (gIx 3 (oLoc 2)) gsNil))))
(sRet (wN fLst (aCons (oTmp (wN fTupOf (aCons (oLoc 3) aNil))) aNil))))))
theorem vc_k15_deed (kl : Kl) : VC sp_k15_deed 4 (w_k15_deed kl) := FS.vc fun ⟨xs, i, j⟩ hp Q E hQ => by
  obtain ⟨hi, hj, hb⟩ := hp
  simp only at hi hj hb hQ
  have g1 := atI_nats (getD_get hi)
  have g2 := atI_nats (getD_get hj)
  have b1 := getD_lt hb hi
  have b2 := getD_lt hb hj
  have no : mayD xs i j = false → Q (.ow, .lst []) [] := fun h => hQ _ _ ⟨by unfold deed1; rw [h]; rfl, rfl⟩
  have yes : mayD xs i j = true → Q (.ow, .lst [rowD (deedL xs i j)]) [] := fun h => hQ _ _ ⟨by unfold deed1; rw [h]; rfl, rfl⟩
  unfold mayD at no yes
  unfold deedL at yes
  unfold w_k15_deed
  simp only [↓d_sSeq, ↓d_sAsg, ↓d_sExpr, ↓d_sRet, ↓d_sRetN, ↓d_sNext, ↓d_sAug, ↓d_sPar, ↓d_sBreak, ↓d_sCont, ↓d_wTB, ↓d_wTV, ↓d_wNotT, ↓d_wNotE, ↓d_w1, ↓d_w2, ↓d_wN, ↓d_wC, ↓d_wVar, ↓d_wMove, ↓d_wMut, ↓d_wSl, ↓d_oTmp, ↓d_oLoc, ↓d_aNil, ↓d_aCons, ↓d_aRev, res, ress, callA, takeA, nextR, backA, putB, ↓d_gN, ↓d_gTp, ↓d_gsCons, ↓d_gsNil, ↓d_gIx, canSet_eq, free_un, free_sh1, free_ow1, free_fr1, okR, okM, ↓d_pNone, ↓d_pInt, ↓d_fAdd, ↓d_fSub, ↓d_fMul, ↓d_fDiv, ↓d_fMod, ↓d_fPow, ↓d_fShr, ↓d_fShl, ↓d_fAnd, ↓d_fNeg, ↓d_fCmp, ↓d_fLt, ↓d_fLe, ↓d_fGt, ↓d_fGe, ↓d_fIs, ↓d_fIx, ↓d_fIxK, ↓d_fLen, ↓d_fLenK, ↓d_fAbs, ↓fIntOf_bl, ↓fIntOf_int, b2i_true, b2i_false, ↓d_fAddI, ↓d_fMulI, ↓d_fLst, ↓d_fTup, shs, fSeq, fZip, fRev, ↓d_mAppend, ↓d_mExtend, ↓d_mPop0, ↓d_mPopAt, D.isLst, locs, lend, lendI, lent, home, homeI, back1, wipeR, unwipe, ↓d_homeD, wYes, noX, Option.toList, List.getElem?_cons_zero, List.getElem?_cons_succ, List.set_cons_zero, List.set_cons_succ, List.length_cons, List.length_nil, List.headD_cons, List.headD_nil, List.tail_cons, List.tail_nil, List.reverse_cons, List.reverse_nil, List.nil_append, List.cons_append, Nat.zero_add, Bool.false_eq_true, if_true, if_false, ite_true, ite_false, List.contains_cons, List.contains_nil, initR, edOf, outsOf, slotR, List.map_cons, List.map_nil, List.replicate_succ, List.replicate_zero, List.append_nil, Nat.reduceAdd, Nat.reduceSub, Nat.reduceMul, FS_pm, FS_ar, Mo.own, sI, sD, nv, iv, ↓d_fListOf, ↓d_fTupOf, ↓d_parW1, ↓d_parW2, ↓d_sRaise, ↓sIf_eq, ↓wIf_eq, ↓wAndT_eq, ↓wOrT_eq, ↓wAndE_eq, ↓wOrE_eq, ↓sFor_eq, ↓wComp_eq, ↓wCall_eq, ↓sWhile_eq, ↓turnW_eq, brP_true, brP_false, true_and, and_true, pair_eta, atI_0, atI_1, atI_2, atI_3, natsD_cons, natsD_nil, decide_true, decide_false, Bool.not_true, Bool.not_false, Bool.true_xor, Bool.false_xor, Bool.xor_self, few_eq, few_lt, PowOk_iff, Nat.reduceLeDiff, Int.reduceLE, Int.reduceLT, Int.reduceAbs, Int.reduceMul, Int.reduceAdd, Int.reduceSub, Int.reduceNeg, Int.reduceDiv, Int.reduceMod, ↓fEq_int, ↓fEq_str, ↓fEq_bl, ↓fMax2, ↓fMin2, rowD, natsD_len, Nat.reducePow, Nat.reduceLT, Int.reduceToNat, Int.reducePow, and_self, Int.zero_add, List.getD_cons_zero, List.getD_cons_succ, ne_shfr, ne_owfr, ne_bofr, ne_lnfr, Int.toNat_natCast, Nat.one_mul, Nat.reduceBEq, reduceIte, ↓reduceIte, ↓wChain_eq, ↓d_fIsi, ↓d_fRevL, ↓d_fRgL, ↓d_fRgT, tyD, isiB, String.reduceBEq, Bool.or_true, Bool.true_or, Bool.or_false, Bool.false_or, Bool.and_true, Bool.true_and, Bool.and_false, Bool.false_and, ↓fEq_row, ↓fEq_nats, ↓fEq_nats0, rng_nats, ↓fSum_row, ↓fSum_nats, g1, g2]
  generalize xs.getD i 0 = a at *
  generalize xs.getD j 0 = b at *
  refine brD (fun h => ?_) (fun h => ?_)
  · walk_at "wp"
    exact no (by have : i = j := by omega
                 simp [this])
  simp only [↓d_sSeq, ↓d_sAsg, ↓d_sExpr, ↓d_sRet, ↓d_sRetN, ↓d_sNext, ↓d_sAug, ↓d_sPar, ↓d_sBreak, ↓d_sCont, ↓d_wTB, ↓d_wTV, ↓d_wNotT, ↓d_wNotE, ↓d_w1, ↓d_w2, ↓d_wN, ↓d_wC, ↓d_wVar, ↓d_wMove, ↓d_wMut, ↓d_wSl, ↓d_oTmp, ↓d_oLoc, ↓d_aNil, ↓d_aCons, ↓d_aRev, res, ress, callA, takeA, nextR, backA, putB, ↓d_gN, ↓d_gTp, ↓d_gsCons, ↓d_gsNil, ↓d_gIx, canSet_eq, free_un, free_sh1, free_ow1, free_fr1, okR, okM, ↓d_pNone, ↓d_pInt, ↓d_fAdd, ↓d_fSub, ↓d_fMul, ↓d_fDiv, ↓d_fMod, ↓d_fPow, ↓d_fShr, ↓d_fShl, ↓d_fAnd, ↓d_fNeg, ↓d_fCmp, ↓d_fLt, ↓d_fLe, ↓d_fGt, ↓d_fGe, ↓d_fIs, ↓d_fIx, ↓d_fIxK, ↓d_fLen, ↓d_fLenK, ↓d_fAbs, ↓fIntOf_bl, ↓fIntOf_int, b2i_true, b2i_false, ↓d_fAddI, ↓d_fMulI, ↓d_fLst, ↓d_fTup, shs, fSeq, fZip, fRev, ↓d_mAppend, ↓d_mExtend, ↓d_mPop0, ↓d_mPopAt, D.isLst, locs, lend, lendI, lent, home, homeI, back1, wipeR, unwipe, ↓d_homeD, wYes, noX, Option.toList, List.getElem?_cons_zero, List.getElem?_cons_succ, List.set_cons_zero, List.set_cons_succ, List.length_cons, List.length_nil, List.headD_cons, List.headD_nil, List.tail_cons, List.tail_nil, List.reverse_cons, List.reverse_nil, List.nil_append, List.cons_append, Nat.zero_add, Bool.false_eq_true, if_true, if_false, ite_true, ite_false, List.contains_cons, List.contains_nil, initR, edOf, outsOf, slotR, List.map_cons, List.map_nil, List.replicate_succ, List.replicate_zero, List.append_nil, Nat.reduceAdd, Nat.reduceSub, Nat.reduceMul, FS_pm, FS_ar, Mo.own, sI, sD, nv, iv, ↓d_fListOf, ↓d_fTupOf, ↓d_parW1, ↓d_parW2, ↓d_sRaise, ↓sIf_eq, ↓wIf_eq, ↓wAndT_eq, ↓wOrT_eq, ↓wAndE_eq, ↓wOrE_eq, ↓sFor_eq, ↓wComp_eq, ↓wCall_eq, ↓sWhile_eq, ↓turnW_eq, brP_true, brP_false, true_and, and_true, pair_eta, atI_0, atI_1, atI_2, atI_3, natsD_cons, natsD_nil, decide_true, decide_false, Bool.not_true, Bool.not_false, Bool.true_xor, Bool.false_xor, Bool.xor_self, few_eq, few_lt, PowOk_iff, Nat.reduceLeDiff, Int.reduceLE, Int.reduceLT, Int.reduceAbs, Int.reduceMul, Int.reduceAdd, Int.reduceSub, Int.reduceNeg, Int.reduceDiv, Int.reduceMod, ↓fEq_int, ↓fEq_str, ↓fEq_bl, ↓fMax2, ↓fMin2, rowD, natsD_len, Nat.reducePow, Nat.reduceLT, Int.reduceToNat, Int.reducePow, and_self, Int.zero_add, List.getD_cons_zero, List.getD_cons_succ, ne_shfr, ne_owfr, ne_bofr, ne_lnfr, Int.toNat_natCast, Nat.one_mul, Nat.reduceBEq, reduceIte, ↓reduceIte, ↓wChain_eq, ↓d_fIsi, ↓d_fRevL, ↓d_fRgL, ↓d_fRgT, tyD, isiB, String.reduceBEq, Bool.or_true, Bool.true_or, Bool.or_false, Bool.false_or, Bool.and_true, Bool.true_and, Bool.and_false, Bool.false_and, ↓fEq_row, ↓fEq_nats, ↓fEq_nats0, rng_nats, ↓fSum_row, ↓fSum_nats, g1, g2]
  refine brD (fun h2 => ?_) (fun h2 => ?_)
  · walk_at "wp"
    exact no (by have : ¬ b ≤ a := by omega
                 simp [this])
  simp only [↓d_sSeq, ↓d_sAsg, ↓d_sExpr, ↓d_sRet, ↓d_sRetN, ↓d_sNext, ↓d_sAug, ↓d_sPar, ↓d_sBreak, ↓d_sCont, ↓d_wTB, ↓d_wTV, ↓d_wNotT, ↓d_wNotE, ↓d_w1, ↓d_w2, ↓d_wN, ↓d_wC, ↓d_wVar, ↓d_wMove, ↓d_wMut, ↓d_wSl, ↓d_oTmp, ↓d_oLoc, ↓d_aNil, ↓d_aCons, ↓d_aRev, res, ress, callA, takeA, nextR, backA, putB, ↓d_gN, ↓d_gTp, ↓d_gsCons, ↓d_gsNil, ↓d_gIx, canSet_eq, free_un, free_sh1, free_ow1, free_fr1, okR, okM, ↓d_pNone, ↓d_pInt, ↓d_fAdd, ↓d_fSub, ↓d_fMul, ↓d_fDiv, ↓d_fMod, ↓d_fPow, ↓d_fShr, ↓d_fShl, ↓d_fAnd, ↓d_fNeg, ↓d_fCmp, ↓d_fLt, ↓d_fLe, ↓d_fGt, ↓d_fGe, ↓d_fIs, ↓d_fIx, ↓d_fIxK, ↓d_fLen, ↓d_fLenK, ↓d_fAbs, ↓fIntOf_bl, ↓fIntOf_int, b2i_true, b2i_false, ↓d_fAddI, ↓d_fMulI, ↓d_fLst, ↓d_fTup, shs, fSeq, fZip, fRev, ↓d_mAppend, ↓d_mExtend, ↓d_mPop0, ↓d_mPopAt, D.isLst, locs, lend, lendI, lent, home, homeI, back1, wipeR, unwipe, ↓d_homeD, wYes, noX, Option.toList, List.getElem?_cons_zero, List.getElem?_cons_succ, List.set_cons_zero, List.set_cons_succ, List.length_cons, List.length_nil, List.headD_cons, List.headD_nil, List.tail_cons, List.tail_nil, List.reverse_cons, List.reverse_nil, List.nil_append, List.cons_append, Nat.zero_add, Bool.false_eq_true, if_true, if_false, ite_true, ite_false, List.contains_cons, List.contains_nil, initR, edOf, outsOf, slotR, List.map_cons, List.map_nil, List.replicate_succ, List.replicate_zero, List.append_nil, Nat.reduceAdd, Nat.reduceSub, Nat.reduceMul, FS_pm, FS_ar, Mo.own, sI, sD, nv, iv, ↓d_fListOf, ↓d_fTupOf, ↓d_parW1, ↓d_parW2, ↓d_sRaise, ↓sIf_eq, ↓wIf_eq, ↓wAndT_eq, ↓wOrT_eq, ↓wAndE_eq, ↓wOrE_eq, ↓sFor_eq, ↓wComp_eq, ↓wCall_eq, ↓sWhile_eq, ↓turnW_eq, brP_true, brP_false, true_and, and_true, pair_eta, atI_0, atI_1, atI_2, atI_3, natsD_cons, natsD_nil, decide_true, decide_false, Bool.not_true, Bool.not_false, Bool.true_xor, Bool.false_xor, Bool.xor_self, few_eq, few_lt, PowOk_iff, Nat.reduceLeDiff, Int.reduceLE, Int.reduceLT, Int.reduceAbs, Int.reduceMul, Int.reduceAdd, Int.reduceSub, Int.reduceNeg, Int.reduceDiv, Int.reduceMod, ↓fEq_int, ↓fEq_str, ↓fEq_bl, ↓fMax2, ↓fMin2, rowD, natsD_len, Nat.reducePow, Nat.reduceLT, Int.reduceToNat, Int.reducePow, and_self, Int.zero_add, List.getD_cons_zero, List.getD_cons_succ, ne_shfr, ne_owfr, ne_bofr, ne_lnfr, Int.toNat_natCast, Nat.one_mul, Nat.reduceBEq, reduceIte, ↓reduceIte, ↓wChain_eq, ↓d_fIsi, ↓d_fRevL, ↓d_fRgL, ↓d_fRgT, tyD, isiB, String.reduceBEq, Bool.or_true, Bool.true_or, Bool.or_false, Bool.false_or, Bool.and_true, Bool.true_and, Bool.and_false, Bool.false_and, ↓fEq_row, ↓fEq_nats, ↓fEq_nats0, rng_nats, ↓fSum_row, ↓fSum_nats, g1, g2]
  refine brD (fun h3 => ?_) (fun h3 => ?_)
  · walk_at "wp"
    exact no (by have : ¬ 0 < b := by omega
                 simp [this])
  have e1 : ((a : Int) - (b : Int)) = ((a - b : Nat) : Int) := by omega
  have e2 : ((2 : Int) * (b : Int)) = ((2 * b : Nat) : Int) := by omega
  simp only [↓d_sSeq, ↓d_sAsg, ↓d_sExpr, ↓d_sRet, ↓d_sRetN, ↓d_sNext, ↓d_sAug, ↓d_sPar, ↓d_sBreak, ↓d_sCont, ↓d_wTB, ↓d_wTV, ↓d_wNotT, ↓d_wNotE, ↓d_w1, ↓d_w2, ↓d_wN, ↓d_wC, ↓d_wVar, ↓d_wMove, ↓d_wMut, ↓d_wSl, ↓d_oTmp, ↓d_oLoc, ↓d_aNil, ↓d_aCons, ↓d_aRev, res, ress, callA, takeA, nextR, backA, putB, ↓d_gN, ↓d_gTp, ↓d_gsCons, ↓d_gsNil, ↓d_gIx, canSet_eq, free_un, free_sh1, free_ow1, free_fr1, okR, okM, ↓d_pNone, ↓d_pInt, ↓d_fAdd, ↓d_fSub, ↓d_fMul, ↓d_fDiv, ↓d_fMod, ↓d_fPow, ↓d_fShr, ↓d_fShl, ↓d_fAnd, ↓d_fNeg, ↓d_fCmp, ↓d_fLt, ↓d_fLe, ↓d_fGt, ↓d_fGe, ↓d_fIs, ↓d_fIx, ↓d_fIxK, ↓d_fLen, ↓d_fLenK, ↓d_fAbs, ↓fIntOf_bl, ↓fIntOf_int, b2i_true, b2i_false, ↓d_fAddI, ↓d_fMulI, ↓d_fLst, ↓d_fTup, shs, fSeq, fZip, fRev, ↓d_mAppend, ↓d_mExtend, ↓d_mPop0, ↓d_mPopAt, D.isLst, locs, lend, lendI, lent, home, homeI, back1, wipeR, unwipe, ↓d_homeD, wYes, noX, Option.toList, List.getElem?_cons_zero, List.getElem?_cons_succ, List.set_cons_zero, List.set_cons_succ, List.length_cons, List.length_nil, List.headD_cons, List.headD_nil, List.tail_cons, List.tail_nil, List.reverse_cons, List.reverse_nil, List.nil_append, List.cons_append, Nat.zero_add, Bool.false_eq_true, if_true, if_false, ite_true, ite_false, List.contains_cons, List.contains_nil, initR, edOf, outsOf, slotR, List.map_cons, List.map_nil, List.replicate_succ, List.replicate_zero, List.append_nil, Nat.reduceAdd, Nat.reduceSub, Nat.reduceMul, FS_pm, FS_ar, Mo.own, sI, sD, nv, iv, ↓d_fListOf, ↓d_fTupOf, ↓d_parW1, ↓d_parW2, ↓d_sRaise, ↓sIf_eq, ↓wIf_eq, ↓wAndT_eq, ↓wOrT_eq, ↓wAndE_eq, ↓wOrE_eq, ↓sFor_eq, ↓wComp_eq, ↓wCall_eq, ↓sWhile_eq, ↓turnW_eq, brP_true, brP_false, true_and, and_true, pair_eta, atI_0, atI_1, atI_2, atI_3, natsD_cons, natsD_nil, decide_true, decide_false, Bool.not_true, Bool.not_false, Bool.true_xor, Bool.false_xor, Bool.xor_self, few_eq, few_lt, PowOk_iff, Nat.reduceLeDiff, Int.reduceLE, Int.reduceLT, Int.reduceAbs, Int.reduceMul, Int.reduceAdd, Int.reduceSub, Int.reduceNeg, Int.reduceDiv, Int.reduceMod, ↓fEq_int, ↓fEq_str, ↓fEq_bl, ↓fMax2, ↓fMin2, rowD, natsD_len, Nat.reducePow, Nat.reduceLT, Int.reduceToNat, Int.reducePow, and_self, Int.zero_add, List.getD_cons_zero, List.getD_cons_succ, ne_shfr, ne_owfr, ne_bofr, ne_lnfr, Int.toNat_natCast, Nat.one_mul, Nat.reduceBEq, reduceIte, ↓reduceIte, ↓wChain_eq, ↓d_fIsi, ↓d_fRevL, ↓d_fRgL, ↓d_fRgT, tyD, isiB, String.reduceBEq, Bool.or_true, Bool.true_or, Bool.or_false, Bool.false_or, Bool.and_true, Bool.true_and, Bool.and_false, Bool.false_and, ↓fEq_row, ↓fEq_nats, ↓fEq_nats0, rng_nats, ↓fSum_row, ↓fSum_nats, g1, g2, e1, e2, ixN_nat hi, ixN_nat hj, natsD_set, List.length_set]
  refine ⟨mulOkI (by omega), yes ?_⟩
  have h1 : i ≠ j := by omega
  have h4 : b ≤ a := by omega
  have h5 : 0 < b := by omega
  simp [h1, h4, h5]
abbrev sp_k15_next : FSpec := FS (α := List Nat) 1 [] (fun xs => [(.sh, rowD xs)]) (fun xs => xs.length ≤ 100 ∧ (∀ x ∈ xs, x < 2 ^ 200)) (fun xs r o => r = (.ow, .lst (rowsD (nextL xs))) ∧ o = []) noExc
def b1_k15_next (kl : Kl) : WS :=
(sExpr (wMut 1 D.isLst mExtend (aCons (oTmp (wCall sp_k15_deed (aCons (oLoc 0) (aCons (oLoc 2) (aCons (oLoc 3) aNil))))) aNil)))
def b2_k15_next (kl : Kl) : WS :=
(sFor fRange1 (aCons (oTmp (wN (fLenK kl) (aCons (oLoc 0) aNil))) aNil) (gN 3)
(b1_k15_next kl))
def w_k15_next (kl : Kl) : WS :=
(sSeq (sAsg (wN fLst aNil) (gN 1))
(sSeq (sFor fRange1 (aCons (oTmp (wN (fLenK kl) (aCons (oLoc 0) aNil))) aNil) (gN 2)
(b2_k15_next kl))
(sRet (wMove 1))))
theorem flat_len {f : Nat → List (List Nat)} (h : ∀ j, (f j).length ≤ 1) (n : Nat) : ((List.range n).flatMap f).length ≤ n := by
  induction n with
  | zero => simp
  | succ n ih =>
    rw [List.range_succ, List.flatMap_append, List.length_append, List.flatMap_cons, List.flatMap_nil, List.append_nil]
    have := h n
    omega
theorem deed1_len (xs : List Nat) (i j : Nat) : (deed1 xs i j).length ≤ 1 := by unfold deed1; split <;> simp
theorem range_flat {α : Type} (f : Nat → List α) (n : Nat) : (List.range (n + 1)).flatMap f = (List.range n).flatMap f ++ f n := by
  rw [List.range_succ, List.flatMap_append]; simp
theorem flat_len2 (xs : List Nat) (n : Nat) : ((List.range n).flatMap fun i => (List.range xs.length).flatMap fun j => deed1 xs i j).length ≤ n * xs.length := by
  induction n with
  | zero => simp
  | succ n ih =>
    rw [range_flat, List.length_append, Nat.succ_mul]
    have : ((List.range xs.length).flatMap fun j => deed1 xs n j).length ≤ xs.length := flat_len (fun j => deed1_len xs n j) xs.length
    omega
theorem vc_k15_next (kl : Kl) : VC sp_k15_next 4 (w_k15_next kl) := FS.vc fun xs hp Q E hQ => by
  obtain ⟨hl, hb⟩ := hp
  have hz := sizeLine_big
  unfold w_k15_next
  walk_at "wp"
  refine forP (fun i ρ => ∃ t2 t3, ρ = [sD (rowD xs), .dat .ow (.lst (rowsD ((List.range i).flatMap fun i => (List.range xs.length).flatMap fun j => deed1 xs i j))), t2, t3] ∧ free t2 ∧ free t3) (range1 (j := (xs.length : Int)) (by omega)) ⟨.un, .un, rfl, trivial, trivial⟩ ?_ ?_
  · rintro i di _ N hi ⟨t2, t3, rfl, f2, f3⟩ hN
    obtain ⟨rfl, hin⟩ := rng_get hi
    rw [Int.toNat_natCast] at hin
    have hA := flat_len2 xs i
    generalize hAcc : ((List.range i).flatMap fun i => (List.range xs.length).flatMap fun j => deed1 xs i j) = A at *
    have hA2 : A.length ≤ 10000 := by
      have : i * xs.length ≤ 100 * 100 := Nat.mul_le_mul (by omega) hl
      omega
    unfold b2_k15_next
    walk_at "wp"
    refine ⟨f2, ?_⟩
    refine forP (fun j ρ => ∃ t3, ρ = [sD (rowD xs), .dat .ow (.lst (rowsD (A ++ (List.range j).flatMap fun j => deed1 xs i j))), sI i, t3] ∧ free t3) (range1 (j := (xs.length : Int)) (by omega)) ⟨t3, by simp; rfl, f3⟩ ?_ ?_
    · rintro j dj _ N hj ⟨t3, rfl, f3⟩ hN
      obtain ⟨rfl, hjn⟩ := rng_get hj
      rw [Int.toNat_natCast] at hjn
      have hB : ((List.range j).flatMap fun j => deed1 xs i j).length ≤ j := flat_len (fun j => deed1_len xs i j) j
      unfold b1_k15_next
      walk_at "wp"
      refine ⟨f3, call0 (xs, i, j) rfl rfl ⟨hin, hjn, hb⟩ ?_⟩
      rintro _ _ ⟨rfl, rfl⟩
      simp only [↓d_sSeq, ↓d_sAsg, ↓d_sExpr, ↓d_sRet, ↓d_sRetN, ↓d_sNext, ↓d_sAug, ↓d_sPar, ↓d_sBreak, ↓d_sCont, ↓d_wTB, ↓d_wTV, ↓d_wNotT, ↓d_wNotE, ↓d_w1, ↓d_w2, ↓d_wN, ↓d_wC, ↓d_wVar, ↓d_wMove, ↓d_wMut, ↓d_wSl, ↓d_oTmp, ↓d_oLoc, ↓d_aNil, ↓d_aCons, ↓d_aRev, res, ress, callA, takeA, nextR, backA, putB, ↓d_gN, ↓d_gTp, ↓d_gsCons, ↓d_gsNil, ↓d_gIx, canSet_eq, free_un, free_sh1, free_ow1, free_fr1, okR, okM, ↓d_pNone, ↓d_pInt, ↓d_fAdd, ↓d_fSub, ↓d_fMul, ↓d_fDiv, ↓d_fMod, ↓d_fPow, ↓d_fShr, ↓d_fShl, ↓d_fAnd, ↓d_fNeg, ↓d_fCmp, ↓d_fLt, ↓d_fLe, ↓d_fGt, ↓d_fGe, ↓d_fIs, ↓d_fIx, ↓d_fIxK, ↓d_fLen, ↓d_fLenK, ↓d_fAbs, ↓fIntOf_bl, ↓fIntOf_int, b2i_true, b2i_false, ↓d_fAddI, ↓d_fMulI, ↓d_fLst, ↓d_fTup, shs, fSeq, fZip, fRev, ↓d_mAppend, ↓d_mExtend, ↓d_mPop0, ↓d_mPopAt, D.isLst, locs, lend, lendI, lent, home, homeI, back1, wipeR, unwipe, ↓d_homeD, wYes, noX, Option.toList, List.getElem?_cons_zero, List.getElem?_cons_succ, List.set_cons_zero, List.set_cons_succ, List.length_cons, List.length_nil, List.headD_cons, List.headD_nil, List.tail_cons, List.tail_nil, List.reverse_cons, List.reverse_nil, List.nil_append, List.cons_append, Nat.zero_add, Bool.false_eq_true, if_true, if_false, ite_true, ite_false, List.contains_cons, List.contains_nil, initR, edOf, outsOf, slotR, List.map_cons, List.map_nil, List.replicate_succ, List.replicate_zero, List.append_nil, Nat.reduceAdd, Nat.reduceSub, Nat.reduceMul, FS_pm, FS_ar, Mo.own, sI, sD, nv, iv, ↓d_fListOf, ↓d_fTupOf, ↓d_parW1, ↓d_parW2, ↓d_sRaise, ↓sIf_eq, ↓wIf_eq, ↓wAndT_eq, ↓wOrT_eq, ↓wAndE_eq, ↓wOrE_eq, ↓sFor_eq, ↓wComp_eq, ↓wCall_eq, ↓sWhile_eq, ↓turnW_eq, brP_true, brP_false, true_and, and_true, pair_eta, atI_0, atI_1, atI_2, atI_3, natsD_cons, natsD_nil, decide_true, decide_false, Bool.not_true, Bool.not_false, Bool.true_xor, Bool.false_xor, Bool.xor_self, few_eq, few_lt, PowOk_iff, Nat.reduceLeDiff, Int.reduceLE, Int.reduceLT, Int.reduceAbs, Int.reduceMul, Int.reduceAdd, Int.reduceSub, Int.reduceNeg, Int.reduceDiv, Int.reduceMod, ↓fEq_int, ↓fEq_str, ↓fEq_bl, ↓fMax2, ↓fMin2, rowD, natsD_len, Nat.reducePow, Nat.reduceLT, Int.reduceToNat, Int.reducePow, and_self, Int.zero_add, List.getD_cons_zero, List.getD_cons_succ, ne_shfr, ne_owfr, ne_bofr, ne_lnfr, Int.toNat_natCast, Nat.one_mul, Nat.reduceBEq, reduceIte, ↓reduceIte, ↓wChain_eq, ↓d_fIsi, ↓d_fRevL, ↓d_fRgL, ↓d_fRgT, tyD, isiB, String.reduceBEq, Bool.or_true, Bool.true_or, Bool.or_false, Bool.false_or, Bool.and_true, Bool.true_and, Bool.and_false, Bool.false_and, ↓fEq_row, ↓fEq_nats, ↓fEq_nats0, rng_nats, ↓fSum_row, ↓fSum_nats, rowsD_app, rowsD_len]
      have := deed1_len xs i j
      refine ⟨by simp only [List.length_append]; omega, hN _ ⟨sI j, ?_, trivial⟩⟩
      rw [range_flat, ← List.append_assoc]
      rfl
    · rintro ρ ⟨t3, rfl, f3⟩
      rw [rng_len, Int.toNat_natCast]
      walk_at "wp"
      refine hN _ ⟨sI i, t3, ?_, trivial, f3⟩
      rw [range_flat, hAcc]
      rfl
  · rintro ρ ⟨t2, t3, rfl, f2, f3⟩
    rw [rng_len, Int.toNat_natCast]
    walk_at "wp"
    exact hQ _ _ ⟨rfl, rfl⟩
end G
end
section
set_option Elab.async false
set_option linter.all false
set_option maxRecDepth 100000
set_option maxHeartbeats 1000000
set_option exponentiation.threshold 100000
namespace G
open PySem PySem.Spec L2
theorem fSum_rowQ {m : Mo} {xs : List Nat} {Q : R → Prop} (h : Q (nv xs.sum)) : fSum [(m, rowD xs)] Q := by
  unfold rowD
  rw [fSum_row]
  exact h
abbrev sp_l_stays : FSpec := FS (α := List Nat) 1 [] (fun xs => [(.sh, rowD xs)]) (fun xs => 0 < gcdL xs ∧ xs.length ≤ 2 ^ 20 ∧ ∀ x ∈ xs, x < 2 ^ 1200)
  (fun xs r o => r = (.sh, .tup (natsD [xs.sum, od (gcdL xs), tw (gcdL xs), oddN xs])) ∧ o = []) noExc
def w_l_stays (kl : Kl) : WS :=
(sSeq (sAsg (wComp fSeq (aCons (oLoc 0) aNil) (gN 1) (wTB (w2 fGt (oLoc 1) (oTmp (wC (.int 0))))) (wVar 1) [1]) (gN 2))
(sSeq (sAsg (wC (.int 0)) (gN 3))
(sSeq (sFor fSeq (aCons (oLoc 2) aNil) (gN 1)
(sSeq (sPar [4, 5] (aCons (oTmp (wVar 3)) (aCons (oTmp (wVar 1)) aNil)))
(sSeq (sWhile (wTB (w2 fGt (oLoc 5) (oTmp (wC (.int 0)))))
(sPar [4, 5] (aCons (oTmp (wVar 5)) (aCons (oTmp (w2 fMod (oLoc 4) (oLoc 5))) aNil))))
(sAsg (wVar 4) (gN 3)))))
(sSeq (sAsg (wN fTup (aCons (oTmp (wVar 3)) (aCons (oTmp (wC (.int 0))) aNil))) (gTp 2 (gsCons (gN 6) (gsCons (gN 7) gsNil))))
(sSeq (sWhile (wTB (w2 (fEq false) (oTmp (w2 fMod (oLoc 6) (oTmp (wC (.int 2))))) (oTmp (wC (.int 0)))))
(sAsg (wN fTup (aCons (oTmp (w2 fDiv (oLoc 6) (oTmp (wC (.int 2))))) (aCons (oTmp (w2 fAdd (oLoc 7) (oTmp (wC (.int 1))))) aNil))) (gTp 2 (gsCons (gN 6) (gsCons (gN 7) gsNil)))))
(sRet (wN fTup (aCons (oTmp (wN fSum (aCons (oLoc 0) aNil))) (aCons (oTmp (wVar 6)) (aCons (oTmp (wVar 7)) (aCons (oTmp (wN (fLenK kl) (aCons (oTmp (wComp fSeq (aCons (oLoc 2) aNil) (gN 1) (wTB (w2 (fEq false) (oTmp (w2 fMod (oTmp (w2 fDiv (oLoc 1) (oTmp (w2 fDiv (oLoc 3) (oLoc 6))))) (oTmp (wC (.int 2))))) (oTmp (wC (.int 1))))) (wVar 1) [1])) aNil))) aNil)))))))))))
theorem vc_l_stays (kl : Kl) : VC sp_l_stays 8 (w_l_stays kl) := FS.vc fun xs hp Q E hQ => by
  obtain ⟨hg, hl, hx⟩ := hp
  have hz := sizeLine_big
  have hfl : (xs.filter (0 < ·)).length ≤ xs.length := List.length_filter_le _ _
  refine seqK fun K hK => ?_
  refine ⟨_, rfl, ?_⟩
  refine compNats (fun x => decide (0 < x)) id (by omega) (fun n hn acc N ha h1 h2 => ?_) ?_
  · refine ⟨trivial, ?_⟩
    show (if decide ((0 : Int) < (n : Int)) = true then _ else _)
    refine iteD (fun h => ?_) (fun h => ?_)
    · exact ⟨trivial, ha, h1 (by simp; omega)⟩
    · exact h2 (by simp; omega)
  refine ⟨trivial, hK _ ?_⟩
  clear hK K
  rw [List.map_id]
  refine seqK fun K hK => ⟨trivial, hK _ ?_⟩
  clear hK K
  refine seqK fun K hK => ?_
  refine ⟨_, rfl, ?_⟩
  refine forBy0 (fun i ρ => ∃ a o p : Slot, free a ∧ free o ∧ free p ∧ ρ = [sD (rowD xs), a, .dat .ln (.lst (natsD (xs.filter (0 < ·)))), sI (gcdL ((xs.filter (0 < ·)).take i)), o, p, .un, .un]) ⟨.un, .un, .un, trivial, trivial, trivial, rfl⟩ ?_ ?_
  · rintro j d _ N hj ⟨a, o, p, fa, fo, fp, rfl⟩ hN
    obtain ⟨n, hn, rfl⟩ := natsD_get hj
    refine ⟨canSet_of rfl fa, ?_⟩
    refine seqK fun K hK => ?_
    refine ⟨canSet_of rfl fo, canSet_of rfl fp, hK _ ?_⟩
    clear hK K
    refine seqK fun K hK => ?_
    refine whileBy (α := Nat × Nat) (fun b => [sD (rowD xs), sI n, .dat .ln (.lst (natsD (xs.filter (0 < ·)))), sI (gcdL ((xs.filter (0 < ·)).take j)), sI b.1, sI b.2, .un, .un]) (fun b => Nat.gcd b.1 b.2 = gcdL ((xs.filter (0 < ·)).take (j + 1))) (fun b => b.2) (gcdL ((xs.filter (0 < ·)).take j), n) rfl (by rw [gcdL_take hn]) ?_
    rintro ⟨x, y⟩ hxy
    simp only [sSeq, sAsg, sIf, sExpr, sRet, sRetN, sNext, sAug, sPar, parW, sFor, sBreak, sCont, wTB, wTV, wAndT, wOrT, wNotT, wAndE, wOrE, wNotE, wIf, w1, w2, wN, wC, wVar, wMove, wMut, wComp, wCall, wSl, oTmp, oLoc, aNil, aCons, aRev, res, ress, callA, takeA, nextR, backA, putB, gN, gTp, gsCons, gsNil, gIx, canSet, okR, okM, pNone, pInt, fAdd, fSub, fMul, fDiv, fMod, fPow, fShr, fShl, fAnd, fNeg, fCmp, fLt, fLe, fGt, fGe, fEq, fIs, fIx, fIxK, fLen, fLenK, fAbs, fIntOf, fAddI, fMulI, fLst, fTup, shs, fSeq, fZip, fRev, mAppend, mExtend, mPop0, mPopAt, D.isLst, locs, lend, lendI, lent, home, homeI, back1, wipeR, unwipe, homeD, wYes, List.getElem?_cons_zero, List.getElem?_cons_succ, List.set_cons_zero, List.set_cons_succ, List.length_cons, List.length_nil, List.headD_cons, List.headD_nil, List.tail_cons, List.tail_nil, List.reverse_cons, List.reverse_nil, List.nil_append, List.cons_append, Nat.zero_add, Bool.false_eq_true, if_true, if_false, ite_true, ite_false, List.contains_cons, List.contains_nil, initR, edOf, outsOf, slotR, List.map_cons, List.map_nil, List.replicate_succ, List.replicate_zero, List.append_nil, Nat.reduceAdd, Nat.reduceSub, Nat.reduceMul, FS_pm, FS_ar, Mo.own, sI, sD, nv, iv]
    refine iteD (fun h => ?_) (fun h => ?_)
    · refine ⟨by omega, trivial, trivial, x % y, Nat.mod_lt _ (by omega), (y, x % y), by simp, ?_, rfl⟩
      rw [← hxy]
      show Nat.gcd y (x % y) = Nat.gcd x y
      rw [Nat.gcd_comm x y, Nat.gcd_rec y x, Nat.gcd_comm]
    · have : y = 0 := by omega
      subst this
      refine hK _ ⟨trivial, hN _ ⟨sI n, sI x, sI 0, trivial, trivial, trivial, ?_⟩⟩
      rw [← hxy, Nat.gcd_zero_right]
      rfl
  · rintro ρ ⟨a, o, p, fa, fo, fp, rfl⟩
    rw [natsD_len, List.take_length, gcdL_filter]
    refine hK _ ?_
    clear hK K
    refine seqK fun K hK => ?_
    refine ⟨few (n := 2) (by decide), rfl, trivial, trivial, hK _ ?_⟩
    clear hK K
    refine seqK fun K hK => ?_
    refine whileBy (α := Nat × Nat) (fun b => [sD (rowD xs), a, .dat .ow (.lst (natsD (xs.filter (0 < ·)))), sI (gcdL xs), o, p, sI b.1, sI b.2]) (fun b => b.1 * 2 ^ b.2 = gcdL xs ∧ 0 < b.1) (fun b => b.1) (gcdL xs, 0) rfl ⟨by simp, hg⟩ ?_
    rintro ⟨x, k⟩ ⟨e1, hx0⟩
    simp only at e1 hx0
    simp only [sSeq, sAsg, sIf, sExpr, sRet, sRetN, sNext, sAug, sPar, parW, sFor, sBreak, sCont, wTB, wTV, wAndT, wOrT, wNotT, wAndE, wOrE, wNotE, wIf, w1, w2, wN, wC, wVar, wMove, wMut, wComp, wCall, wSl, oTmp, oLoc, aNil, aCons, aRev, res, ress, callA, takeA, nextR, backA, putB, gN, gTp, gsCons, gsNil, gIx, canSet, okR, okM, pNone, pInt, fAdd, fSub, fMul, fDiv, fMod, fPow, fShr, fShl, fAnd, fNeg, fCmp, fLt, fLe, fGt, fGe, fEq, fIs, fIx, fIxK, fLen, fLenK, fAbs, fIntOf, fAddI, fMulI, fLst, fTup, shs, fSeq, fZip, fRev, mAppend, mExtend, mPop0, mPopAt, D.isLst, locs, lend, lendI, lent, home, homeI, back1, wipeR, unwipe, homeD, wYes, List.getElem?_cons_zero, List.getElem?_cons_succ, List.set_cons_zero, List.set_cons_succ, List.length_cons, List.length_nil, List.headD_cons, List.headD_nil, List.tail_cons, List.tail_nil, List.reverse_cons, List.reverse_nil, List.nil_append, List.cons_append, Nat.zero_add, Bool.false_eq_true, if_true, if_false, ite_true, ite_false, List.contains_cons, List.contains_nil, initR, edOf, outsOf, slotR, List.map_cons, List.map_nil, List.replicate_succ, List.replicate_zero, List.append_nil, Nat.reduceAdd, Nat.reduceSub, Nat.reduceMul, FS_pm, FS_ar, Mo.own, sI, sD, nv, iv, Bool.false_xor]
    refine ⟨by decide, iteD (fun h => ?_) (fun h => ?_)⟩
    · refine ⟨divOk (by decide) (by decide +kernel), few (by decide), trivial, trivial, trivial, x / 2, by omega, (x / 2, k + 1), by simp, ⟨?_, by simp only; omega⟩, rfl⟩
      show x / 2 * 2 ^ (k + 1) = gcdL xs
      rw [← e1, Nat.pow_succ, Nat.mul_comm (2 ^ k) 2, ← Nat.mul_assoc]
      congr 1
      omega
    · have hod : x % 2 = 1 := by omega
      have et : tw (gcdL xs) = k := by rw [← e1]; exact tw_mul_pow hod k
      have eo : od (gcdL xs) = x := by rw [← e1]; exact od_mul_pow hod k
      refine hK _ ?_
      clear hK K
      simp only [sRet, wN, aCons, aNil, oTmp, oLoc, ress, res, sD, List.getElem?_cons_zero]
      refine fSum_rowQ ?_
      have hgl : gcdL xs < 2 ^ 1200 := by
        have : ∃ y ∈ xs, 0 < y := by
          refine Classical.byContradiction fun hn => ?_
          have : gcdL xs = 0 := Nat.eq_zero_of_zero_dvd (dvd_gcdL fun y hy => by
            have : ¬ 0 < y := fun h0 => hn ⟨y, hy, h0⟩
            have : y = 0 := by omega
            rw [this]; exact Nat.dvd_refl 0)
          omega
        obtain ⟨y, hy, hy0⟩ := this
        exact Nat.lt_of_le_of_lt (Nat.le_of_dvd hy0 (gcdL_dvd hy)) (hx y hy)
      have hxg : x ≤ gcdL xs := by rw [← e1]; exact Nat.le_mul_of_pos_right _ (Nat.two_pow_pos k)
      have dx : DivOk (x : Int) := by
        refine divOk (by omega) ?_
        have h1 : x < 2 ^ 8000 := Nat.lt_of_le_of_lt hxg (Nat.lt_of_lt_of_le hgl (Nat.pow_le_pow_right (by decide) (by decide)))
        have h2 : ((x : Nat) : Int) < ((2 ^ 8000 : Nat) : Int) := Int.ofNat_lt.mpr h1
        exact h2
      have hq0 : 0 < gcdL xs / x := Nat.div_pos hxg hx0
      have dq : DivOk ((gcdL xs / x : Nat) : Int) := by
        refine divOk (by omega) ?_
        have h1 : gcdL xs / x < 2 ^ 8000 := Nat.lt_of_le_of_lt (Nat.div_le_self _ _) (Nat.lt_of_lt_of_le hgl (Nat.pow_le_pow_right (by decide) (by decide)))
        have h2 : ((gcdL xs / x : Nat) : Int) < ((2 ^ 8000 : Nat) : Int) := Int.ofNat_lt.mpr h1
        exact h2
      refine ⟨_, rfl, ?_⟩
      refine compNats (fun y => decide (y / (gcdL xs / od (gcdL xs)) % 2 = 1)) id (by omega) (fun n hn acc N ha h1 h2 => ?_) ?_
      · refine ⟨trivial, dx, ?_⟩
        have e2 : ((gcdL xs : Int) / (x : Int)) = ((gcdL xs / x : Nat) : Int) := by simp
        show DivOk ((gcdL xs : Int) / (x : Int)) ∧ _
        rw [e2]
        refine ⟨dq, by decide, ?_⟩
        show (if (false ^^ decide ((n : Int) / ((gcdL xs / x : Nat) : Int) % 2 = 1)) = true then _ else _)
        rw [Bool.false_xor]
        have e3 : ((n : Int) / ((gcdL xs / x : Nat) : Int) % 2) = ((n / (gcdL xs / x) % 2 : Nat) : Int) := by simp
        rw [e3]
        rw [eo] at h1 h2
        refine iteD (fun h => ?_) (fun h => ?_)
        · exact ⟨trivial, ha, h1 (by simp; omega)⟩
        · exact h2 (by simp; omega)
      · refine ⟨few (n := 4) (by decide), hQ _ _ ⟨?_, rfl⟩⟩
        have e4 := oddN_bits xs hg
        rw [List.map_id, natsD_len, e4, et, eo]
        rfl
end G
end
section
set_option Elab.async false
set_option linter.all false
set_option maxRecDepth 100000
set_option maxHeartbeats 1000000
set_option exponentiation.threshold 100000
namespace G
open PySem PySem.Spec L2
local macro_rules | `(tactic| walk_at "wk") => `(tactic| simp only [↓sSeq_eq, ↓d_sAsg, ↓d_sExpr, ↓d_sRet, ↓d_sRetN, ↓d_sNext, ↓d_sAug, ↓d_sPar, ↓d_sBreak, ↓d_sCont, ↓d_wTB, ↓d_wTV, ↓d_wNotT, ↓d_wNotE, ↓d_w1, ↓d_w2, ↓d_wN, ↓d_wC, ↓d_wVar, ↓d_wMove, ↓d_wMut, ↓d_wSl, ↓d_oTmp, ↓d_oLoc, ↓d_aNil, ↓d_aCons, ↓d_aRev, res, ress, callA, takeA, nextR, backA, putB, ↓d_gN, ↓d_gTp, ↓d_gsCons, ↓d_gsNil, ↓d_gIx, canSet_eq, free_un, free_sh1, free_ow1, free_fr1, okR, okM, ↓d_pNone, ↓d_pInt, ↓d_fAdd, ↓d_fSub, ↓d_fMul, ↓d_fDiv, ↓d_fMod, ↓d_fPow, ↓d_fShr, ↓d_fShl, ↓d_fAnd, ↓d_fNeg, ↓d_fCmp, ↓d_fLt, ↓d_fLe, ↓d_fGt, ↓d_fGe, ↓d_fIs, ↓d_fIx, ↓d_fIxK, ↓d_fLen, ↓d_fLenK, ↓d_fAbs, ↓fIntOf_bl, ↓fIntOf_int, b2i_true, b2i_false, ↓d_fAddI, ↓d_fMulI, ↓d_fLst, ↓d_fTup, shs, fSeq, fZip, fRev, ↓d_mAppend, ↓d_mExtend, ↓d_mPop0, ↓d_mPopAt, D.isLst, locs, lend, lendI, lent, home, homeI, back1, wipeR, unwipe, ↓d_homeD, wYes, noX, Option.toList, List.getElem?_cons_zero, List.getElem?_cons_succ, List.set_cons_zero, List.set_cons_succ, List.length_cons, List.length_nil, List.headD_cons, List.headD_nil, List.tail_cons, List.tail_nil, List.reverse_cons, List.reverse_nil, List.nil_append, List.cons_append, Nat.zero_add, Bool.false_eq_true, if_true, if_false, ite_true, ite_false, List.contains_cons, List.contains_nil, initR, edOf, outsOf, slotR, List.map_cons, List.map_nil, List.replicate_succ, List.replicate_zero, List.append_nil, Nat.reduceAdd, Nat.reduceSub, Nat.reduceMul, FS_pm, FS_ar, Mo.own, sI, sD, nv, iv, ↓d_fListOf, ↓d_fTupOf, ↓d_parW1, ↓d_parW2, ↓d_sRaise, ↓sIf_eq, ↓wIf_eq, ↓wAndT_eq, ↓wOrT_eq, ↓wAndE_eq, ↓wOrE_eq, ↓sFor_eq, ↓wComp_eq, ↓wCall_eq, ↓sWhile_eq, ↓turnW_eq, brP_true, brP_false, true_and, and_true, pair_eta, atI_0, atI_1, atI_2, atI_3, natsD_cons, natsD_nil, decide_true, decide_false, Bool.not_true, Bool.not_false, Bool.true_xor, Bool.false_xor, Bool.xor_self, few_eq, few_lt, PowOk_iff, Nat.reduceLeDiff, Int.reduceLE, Int.reduceLT, Int.reduceAbs, Int.reduceMul, Int.reduceAdd, Int.reduceSub, Int.reduceNeg, Int.reduceDiv, Int.reduceMod, ↓fEq_int, ↓fEq_str, ↓fEq_bl, ↓fMax2, ↓fMin2, rowD, natsD_len, Nat.reducePow, Nat.reduceLT, Int.reduceToNat, Int.reducePow, and_self, Int.zero_add, List.getD_cons_zero, List.getD_cons_succ, ne_shfr, ne_owfr, ne_bofr, ne_lnfr, Int.toNat_natCast, Nat.one_mul, Nat.reduceBEq, reduceIte, ↓reduceIte, ↓wChain_eq, ↓d_fIsi, ↓d_fRevL, ↓d_fRgL, ↓d_fRgT, tyD, isiB, String.reduceBEq, Bool.or_true, Bool.true_or, Bool.or_false, Bool.false_or, Bool.and_true, Bool.true_and, Bool.and_false, Bool.false_and, ↓fEq_row, ↓fEq_nats, ↓fEq_nats0, rng_nats, ↓fSum_row, ↓fSum_nats])
local macro_rules | `(tactic| walk_at "wp") => `(tactic| simp only [↓d_sSeq, ↓d_sAsg, ↓d_sExpr, ↓d_sRet, ↓d_sRetN, ↓d_sNext, ↓d_sAug, ↓d_sPar, ↓d_sBreak, ↓d_sCont, ↓d_wTB, ↓d_wTV, ↓d_wNotT, ↓d_wNotE, ↓d_w1, ↓d_w2, ↓d_wN, ↓d_wC, ↓d_wVar, ↓d_wMove, ↓d_wMut, ↓d_wSl, ↓d_oTmp, ↓d_oLoc, ↓d_aNil, ↓d_aCons, ↓d_aRev, res, ress, callA, takeA, nextR, backA, putB, ↓d_gN, ↓d_gTp, ↓d_gsCons, ↓d_gsNil, ↓d_gIx, canSet_eq, free_un, free_sh1, free_ow1, free_fr1, okR, okM, ↓d_pNone, ↓d_pInt, ↓d_fAdd, ↓d_fSub, ↓d_fMul, ↓d_fDiv, ↓d_fMod, ↓d_fPow, ↓d_fShr, ↓d_fShl, ↓d_fAnd, ↓d_fNeg, ↓d_fCmp, ↓d_fLt, ↓d_fLe, ↓d_fGt, ↓d_fGe, ↓d_fIs, ↓d_fIx, ↓d_fIxK, ↓d_fLen, ↓d_fLenK, ↓d_fAbs, ↓fIntOf_bl, ↓fIntOf_int, b2i_true, b2i_false, ↓d_fAddI, ↓d_fMulI, ↓d_fLst, ↓d_fTup, shs, fSeq, fZip, fRev, ↓d_mAppend, ↓d_mExtend, ↓d_mPop0, ↓d_mPopAt, D.isLst, locs, lend, lendI, lent, home, homeI, back1, wipeR, unwipe, ↓d_homeD, wYes, noX, Option.toList, List.getElem?_cons_zero, List.getElem?_cons_succ, List.set_cons_zero, List.set_cons_succ, List.length_cons, List.length_nil, List.headD_cons, List.headD_nil, List.tail_cons, List.tail_nil, List.reverse_cons, List.reverse_nil, List.nil_append, List.cons_append, Nat.zero_add, Bool.false_eq_true, if_true, if_false, ite_true, ite_false, List.contains_cons, List.contains_nil, initR, edOf, outsOf, slotR, List.map_cons, List.map_nil, List.replicate_succ, List.replicate_zero, List.append_nil, Nat.reduceAdd, Nat.reduceSub, Nat.reduceMul, FS_pm, FS_ar, Mo.own, sI, sD, nv, iv, ↓d_fListOf, ↓d_fTupOf, ↓d_parW1, ↓d_parW2, ↓d_sRaise, ↓sIf_eq, ↓wIf_eq, ↓wAndT_eq, ↓wOrT_eq, ↓wAndE_eq, ↓wOrE_eq, ↓sFor_eq, ↓wComp_eq, ↓wCall_eq, ↓sWhile_eq, ↓turnW_eq, brP_true, brP_false, true_and, and_true, pair_eta, atI_0, atI_1, atI_2, atI_3, natsD_cons, natsD_nil, decide_true, decide_false, Bool.not_true, Bool.not_false, Bool.true_xor, Bool.false_xor, Bool.xor_self, few_eq, few_lt, PowOk_iff, Nat.reduceLeDiff, Int.reduceLE, Int.reduceLT, Int.reduceAbs, Int.reduceMul, Int.reduceAdd, Int.reduceSub, Int.reduceNeg, Int.reduceDiv, Int.reduceMod, ↓fEq_int, ↓fEq_str, ↓fEq_bl, ↓fMax2, ↓fMin2, rowD, natsD_len, Nat.reducePow, Nat.reduceLT, Int.reduceToNat, Int.reducePow, and_self, Int.zero_add, List.getD_cons_zero, List.getD_cons_succ, ne_shfr, ne_owfr, ne_bofr, ne_lnfr, Int.toNat_natCast, Nat.one_mul, Nat.reduceBEq, reduceIte, ↓reduceIte, ↓wChain_eq, ↓d_fIsi, ↓d_fRevL, ↓d_fRgL, ↓d_fRgT, tyD, isiB, String.reduceBEq, Bool.or_true, Bool.true_or, Bool.or_false, Bool.false_or, Bool.and_true, Bool.true_and, Bool.and_false, Bool.false_and, ↓fEq_row, ↓fEq_nats, ↓fEq_nats0, rng_nats, ↓fSum_row, ↓fSum_nats])
abbrev sp_k15_two_come : FSpec := spNone 2
abbrev sp_k15_due : FSpec := FS (α := List Nat × List Nat) 2 [] (fun a => [(.sh, rowD a.1), (.sh, rowD a.2)]) (fun a => 0 < gcdL a.1 ∧ 0 < gcdL a.2 ∧ a.1.length ≤ 1000 ∧ a.2.length ≤ 1000 ∧ (∀ x ∈ a.1, x < 2 ^ 200) ∧ (∀ x ∈ a.2, x < 2 ^ 200) ∧ (a.1 ≠ a.2 → a.1.length = a.2.length → lastL a.1 a.2 = [] → 3 ≤ hn a.1))
  (fun a r o => r = (.sh, .tup (strsD (brokenL a.1 a.2))) ∧ o = []) noExc
def w_k15_due (kl : Kl) : WS :=
(sSeq (sIf (wTB (w2 (fEq false) (oLoc 0) (oLoc 1)))
(sRet (wN fTup aNil))
sNext)
(sSeq (sIf (wTB (w2 (fEq true) (oTmp (wN (fLenK kl) (aCons (oLoc 0) aNil))) (oTmp (wN (fLenK kl) (aCons (oLoc 1) aNil)))))
(sRet (wN fTup (aCons (oTmp (wC (.str "places"))) aNil)))
sNext)
(sSeq (sPar [2, 3] (aCons (oTmp (wCall sp_l_stays (aCons (oLoc 0) aNil))) (aCons (oTmp (wCall sp_l_stays (aCons (oLoc 1) aNil))) aNil)))
(sSeq (sPar [5, 6] (aCons (oTmp (w2 (fEq false) (oTmp (w2 (fIxK kl) (oLoc 2) (oTmp (wC (.int 2))))) (oTmp (w2 (fIxK kl) (oLoc 3) (oTmp (wC (.int 2))))))) (aCons (oTmp (wN (fLenK kl) (aCons (oTmp (wComp fSeq (aCons (oLoc 1) aNil) (gN 4) (wTB (w2 fGt (oLoc 4) (oTmp (wC (.int 0))))) (wVar 4) [4])) aNil))) aNil)))
(sSeq (sAsg (wN fLst (aCons (oTmp (wN fTup (aCons (oTmp (wC (.str "sum"))) (aCons (oTmp (w2 (fEq true) (oTmp (w2 (fIxK kl) (oLoc 2) (oTmp (wC (.int 0))))) (oTmp (w2 (fIxK kl) (oLoc 3) (oTmp (wC (.int 0))))))) aNil)))) aNil)) (gN 7))
(sSeq (sExpr (wMut 7 D.isLst mAppend (aCons (oTmp (wN fTup (aCons (oTmp (wC (.str "nothing"))) (aCons (oTmp (wN fAny (aCons (oTmp (wComp fZip (aCons (oLoc 0) (aCons (oLoc 1) aNil)) (gTp 2 (gsCons (gN 4) (gsCons (gN 8) gsNil))) wYes (wAndE (w2 fGt (oLoc 8) (oTmp (wC (.int 0)))) (w2 (fEq false) (oLoc 4) (oTmp (wC (.int 0))))) [4, 8])) aNil))) aNil)))) aNil)))
(sSeq (sAsg (w2 fAdd (oLoc 7) (oTmp (wN fLst (aCons (oTmp (wN fTup (aCons (oTmp (wC (.str "measure"))) (aCons (oTmp (w2 (fEq true) (oTmp (w2 (fIxK kl) (oLoc 2) (oTmp (wC (.int 1))))) (oTmp (w2 (fIxK kl) (oLoc 3) (oTmp (wC (.int 1))))))) aNil)))) (aCons (oTmp (wN fTup (aCons (oTmp (wC (.str "twos"))) (aCons (oTmp (w2 fLt (oTmp (w2 (fIxK kl) (oLoc 3) (oTmp (wC (.int 2))))) (oTmp (w2 (fIxK kl) (oLoc 2) (oTmp (wC (.int 2))))))) aNil)))) aNil))))) (gN 7))
(sSeq (sAsg (w2 fAdd (oLoc 7) (oTmp (wN fLst (aCons (oTmp (wN fTup (aCons (oTmp (wC (.str "odd ones"))) (aCons (oTmp (wAndE (wVar 5) (w2 fGt (oTmp (w2 (fIxK kl) (oLoc 3) (oTmp (wC (.int 3))))) (oTmp (w2 (fIxK kl) (oLoc 2) (oTmp (wC (.int 3)))))))) aNil)))) (aCons (oTmp (wN fTup (aCons (oTmp (wC (.str "doubled"))) (aCons (oTmp (wAndE (wVar 5) (w2 (fEq false) (oTmp (w2 (fIxK kl) (oLoc 3) (oTmp (wC (.int 3))))) (oLoc 6)))) aNil)))) aNil))))) (gN 7))
(sSeq (sAsg (wComp fSeq (aCons (oLoc 7) aNil) (gTp 2 (gsCons (gN 9) (gsCons (gN 10) gsNil))) (wTV (wVar 10)) (wVar 9) [9, 10]) (gN 11))
(sSeq (sIf (wAndT (wTB (w2 (fEq false) (oLoc 11) (oTmp (wN fLst aNil)))) (wAndT (wTB (w2 fLt (oTmp (wN (fLenK kl) (aCons (oTmp (wComp fSeq (aCons (oLoc 0) aNil) (gN 4) (wTB (w2 fGt (oLoc 4) (oTmp (wC (.int 0))))) (wVar 4) [4])) aNil))) (oTmp (wC (.int 3))))) (wNotT (wTV (wCall sp_k15_two_come (aCons (oLoc 0) (aCons (oLoc 1) aNil)))))))
(sAsg (wN fLst (aCons (oTmp (wC (.str "pair"))) aNil)) (gN 11))
sNext)
(sRet (wN fTupOf (aCons (oLoc 11) aNil)))))))))))))
def pkF : D → Option D
  | .tup [.str w, .bl b] => if b = true then some (.str w) else none
  | _ => none
def lbD (w : Str) (b : Bool) : D := .tup [.str w, .bl b]
theorem pkF_lb (w : Str) (b : Bool) : pkF (lbD w b) = if b = true then some (.str w) else none := rfl
theorem pk_all : ∀ ws : List (Str × Bool), (ws.map fun p => lbD p.1 p.2).filterMap pkF = strsD (ws.flatMap fun p => w1? p.2 p.1)
  | [] => rfl
  | (w, b) :: ws => by
    rw [List.map_cons, List.flatMap_cons]
    cases b with
    | true =>
      have e : pkF (lbD w true) = some (.str w) := rfl
      show (lbD w true :: _).filterMap pkF = _
      rw [List.filterMap_cons_some e, pk_all ws]
      rfl
    | false =>
      have e : pkF (lbD w false) = none := rfl
      show (lbD w false :: _).filterMap pkF = _
      rw [List.filterMap_cons_none e, pk_all ws]
      rfl
def wsOf (xs ys : List Nat) : List (Str × Bool) := [(("sum" : Str), decide (xs.sum ≠ ys.sum)), (("nothing" : Str), gotL xs ys), (("measure" : Str), decide (od (gcdL xs) ≠ od (gcdL ys))), (("twos" : Str), decide (tw (gcdL ys) < tw (gcdL xs))), (("odd ones" : Str), decide (tw (gcdL ys) = tw (gcdL xs)) && decide (oddN xs < oddN ys)), (("doubled" : Str), decide (tw (gcdL ys) = tw (gcdL xs)) && decide (oddN ys = hn ys))]
def zqF : D → Option D
  | .tup [.int a, .int b] => some (.bl (decide (0 < b) && decide (a = 0)))
  | _ => none
theorem zqF_all : ∀ (xs ys : List Nat), (List.zipWith (fun a b => D.tup [a, b]) (natsD xs) (natsD ys)).filterMap zqF = (List.zipWith (fun a b => decide (a = 0) && decide (0 < b)) xs ys).map D.bl
  | [], _ => by simp [natsD]
  | _ :: _, [] => by simp [natsD]
  | x :: xs, y :: ys => by
    rw [natsD_cons, natsD_cons, List.zipWith_cons_cons, List.zipWith_cons_cons, List.map_cons]
    have e : zqF (.tup [.int (x : Int), .int (y : Int)]) = some (.bl (decide (x = 0) && decide (0 < y))) := by
      simp [zqF, Bool.and_comm]
    rw [List.filterMap_cons_some e, zqF_all xs ys]
theorem hn_eq (xs : List Nat) : (((xs.filter fun x => decide (0 < x)).map id).length) = hn xs := by simp [hn]
theorem vc_k15_due (kl : Kl) : VC sp_k15_due 12 (w_k15_due kl) := FS.vc fun ⟨xs, ys⟩ hp Q E hQ => by
  obtain ⟨h1, h2, h3, h4, hbx, hby, h5⟩ := hp
  simp only at h1 h2 h3 h4 hbx hby h5 hQ
  have hz := sizeLine_big
  unfold w_k15_due
  walk_at "wp"
  refine brD (fun h => ?_) (fun h => ?_)
  · walk_at "wp"
    refine hQ _ _ ⟨?_, rfl⟩
    unfold brokenL; rw [if_pos h]; rfl
  walk_at "wp"
  refine brN (fun h6 => ?_) (fun h6 => ?_)
  · walk_at "wp"
    refine hQ _ _ ⟨?_, rfl⟩
    have h6 : ¬ xs.length = ys.length := by omega
    unfold brokenL; rw [if_neg h, if_neg h6]; rfl
  have h6 : xs.length = ys.length := by omega
  have e : brokenL xs ys = lastL xs ys := by unfold brokenL; rw [if_neg h, if_pos h6]
  rw [e] at hQ
  walk_at "wk"
  refine seqP fun K hK => ?_
  walk_at "wp"
  refine call0 xs rfl rfl ⟨h1, by omega, fun x hx => small200 (hbx x hx)⟩ ?_
  rintro _ _ ⟨rfl, rfl⟩
  walk_at "wp"
  refine call0 ys rfl rfl ⟨h2, by omega, fun x hx => small200 (hby x hx)⟩ ?_
  rintro _ _ ⟨rfl, rfl⟩
  walk_at "wp"
  refine hK _ ?_
  clear hK K
  walk_at "wk"
  refine seqP fun K hK => ?_
  walk_at "wp"
  have c1 : (!decide ((xs.sum : Int) = (ys.sum : Int))) = decide (xs.sum ≠ ys.sum) := by
    by_cases h : xs.sum = ys.sum <;> simp [h]; omega
  have c2 : (!decide ((od (gcdL xs) : Int) = (od (gcdL ys) : Int))) = decide (od (gcdL xs) ≠ od (gcdL ys)) := by
    by_cases h : od (gcdL xs) = od (gcdL ys) <;> simp [h]; omega
  have c3 : decide ((tw (gcdL ys) : Int) < (tw (gcdL xs) : Int)) = decide (tw (gcdL ys) < tw (gcdL xs)) := by
    by_cases h : tw (gcdL ys) < tw (gcdL xs) <;> simp [h]
  have c4 : decide ((tw (gcdL xs) : Int) = (tw (gcdL ys) : Int)) = decide (tw (gcdL ys) = tw (gcdL xs)) := by
    by_cases h : tw (gcdL ys) = tw (gcdL xs) <;> simp [h]; omega
  have c5 : decide ((oddN xs : Int) < (oddN ys : Int)) = decide (oddN xs < oddN ys) := by
    by_cases h : oddN xs < oddN ys <;> simp [h]
  have c6 : decide ((oddN ys : Int) = (hn ys : Int)) = decide (oddN ys = hn ys) := by
    by_cases h : oddN ys = hn ys <;> simp [h]; omega
  refine compFT (fun x => decide (0 < x)) id (by omega) (fun n hn acc N ha h7 h8 => ?_) ?_
  · walk_at "wp"
    refine brD (fun h9 => ?_) (fun h9 => ?_)
    · walk_at "wp"
      exact ⟨ha, h7 (decide_eq_true (by omega))⟩
    · walk_at "wp"
      exact h8 (decide_eq_false (by omega))
  simp only [↓d_sSeq, ↓d_sAsg, ↓d_sExpr, ↓d_sRet, ↓d_sRetN, ↓d_sNext, ↓d_sAug, ↓d_sPar, ↓d_sBreak, ↓d_sCont, ↓d_wTB, ↓d_wTV, ↓d_wNotT, ↓d_wNotE, ↓d_w1, ↓d_w2, ↓d_wN, ↓d_wC, ↓d_wVar, ↓d_wMove, ↓d_wMut, ↓d_wSl, ↓d_oTmp, ↓d_oLoc, ↓d_aNil, ↓d_aCons, ↓d_aRev, res, ress, callA, takeA, nextR, backA, putB, ↓d_gN, ↓d_gTp, ↓d_gsCons, ↓d_gsNil, ↓d_gIx, canSet_eq, free_un, free_sh1, free_ow1, free_fr1, okR, okM, ↓d_pNone, ↓d_pInt, ↓d_fAdd, ↓d_fSub, ↓d_fMul, ↓d_fDiv, ↓d_fMod, ↓d_fPow, ↓d_fShr, ↓d_fShl, ↓d_fAnd, ↓d_fNeg, ↓d_fCmp, ↓d_fLt, ↓d_fLe, ↓d_fGt, ↓d_fGe, ↓d_fIs, ↓d_fIx, ↓d_fIxK, ↓d_fLen, ↓d_fLenK, ↓d_fAbs, ↓fIntOf_bl, ↓fIntOf_int, b2i_true, b2i_false, ↓d_fAddI, ↓d_fMulI, ↓d_fLst, ↓d_fTup, shs, fSeq, fZip, fRev, ↓d_mAppend, ↓d_mExtend, ↓d_mPop0, ↓d_mPopAt, D.isLst, locs, lend, lendI, lent, home, homeI, back1, wipeR, unwipe, ↓d_homeD, wYes, noX, Option.toList, List.getElem?_cons_zero, List.getElem?_cons_succ, List.set_cons_zero, List.set_cons_succ, List.length_cons, List.length_nil, List.headD_cons, List.headD_nil, List.tail_cons, List.tail_nil, List.reverse_cons, List.reverse_nil, List.nil_append, List.cons_append, Nat.zero_add, Bool.false_eq_true, if_true, if_false, ite_true, ite_false, List.contains_cons, List.contains_nil, initR, edOf, outsOf, slotR, List.map_cons, List.map_nil, List.replicate_succ, List.replicate_zero, List.append_nil, Nat.reduceAdd, Nat.reduceSub, Nat.reduceMul, FS_pm, FS_ar, Mo.own, sI, sD, nv, iv, ↓d_fListOf, ↓d_fTupOf, ↓d_parW1, ↓d_parW2, ↓d_sRaise, ↓sIf_eq, ↓wIf_eq, ↓wAndT_eq, ↓wOrT_eq, ↓wAndE_eq, ↓wOrE_eq, ↓sFor_eq, ↓wComp_eq, ↓wCall_eq, ↓sWhile_eq, ↓turnW_eq, brP_true, brP_false, true_and, and_true, pair_eta, atI_0, atI_1, atI_2, atI_3, natsD_cons, natsD_nil, decide_true, decide_false, Bool.not_true, Bool.not_false, Bool.true_xor, Bool.false_xor, Bool.xor_self, few_eq, few_lt, PowOk_iff, Nat.reduceLeDiff, Int.reduceLE, Int.reduceLT, Int.reduceAbs, Int.reduceMul, Int.reduceAdd, Int.reduceSub, Int.reduceNeg, Int.reduceDiv, Int.reduceMod, ↓fEq_int, ↓fEq_str, ↓fEq_bl, ↓fMax2, ↓fMin2, rowD, natsD_len, Nat.reducePow, Nat.reduceLT, Int.reduceToNat, Int.reducePow, and_self, Int.zero_add, List.getD_cons_zero, List.getD_cons_succ, ne_shfr, ne_owfr, ne_bofr, ne_lnfr, Int.toNat_natCast, Nat.one_mul, Nat.reduceBEq, reduceIte, ↓reduceIte, ↓wChain_eq, ↓d_fIsi, ↓d_fRevL, ↓d_fRgL, ↓d_fRgT, tyD, isiB, String.reduceBEq, Bool.or_true, Bool.true_or, Bool.or_false, Bool.false_or, Bool.and_true, Bool.true_and, Bool.and_false, Bool.false_and, ↓fEq_row, ↓fEq_nats, ↓fEq_nats0, rng_nats, ↓fSum_row, ↓fSum_nats, hn_eq, c4]
  refine hK _ ?_
  clear hK K
  walk_at "wk"
  refine seqP fun K hK => ?_
  simp only [↓d_sSeq, ↓d_sAsg, ↓d_sExpr, ↓d_sRet, ↓d_sRetN, ↓d_sNext, ↓d_sAug, ↓d_sPar, ↓d_sBreak, ↓d_sCont, ↓d_wTB, ↓d_wTV, ↓d_wNotT, ↓d_wNotE, ↓d_w1, ↓d_w2, ↓d_wN, ↓d_wC, ↓d_wVar, ↓d_wMove, ↓d_wMut, ↓d_wSl, ↓d_oTmp, ↓d_oLoc, ↓d_aNil, ↓d_aCons, ↓d_aRev, res, ress, callA, takeA, nextR, backA, putB, ↓d_gN, ↓d_gTp, ↓d_gsCons, ↓d_gsNil, ↓d_gIx, canSet_eq, free_un, free_sh1, free_ow1, free_fr1, okR, okM, ↓d_pNone, ↓d_pInt, ↓d_fAdd, ↓d_fSub, ↓d_fMul, ↓d_fDiv, ↓d_fMod, ↓d_fPow, ↓d_fShr, ↓d_fShl, ↓d_fAnd, ↓d_fNeg, ↓d_fCmp, ↓d_fLt, ↓d_fLe, ↓d_fGt, ↓d_fGe, ↓d_fIs, ↓d_fIx, ↓d_fIxK, ↓d_fLen, ↓d_fLenK, ↓d_fAbs, ↓fIntOf_bl, ↓fIntOf_int, b2i_true, b2i_false, ↓d_fAddI, ↓d_fMulI, ↓d_fLst, ↓d_fTup, shs, fSeq, fZip, fRev, ↓d_mAppend, ↓d_mExtend, ↓d_mPop0, ↓d_mPopAt, D.isLst, locs, lend, lendI, lent, home, homeI, back1, wipeR, unwipe, ↓d_homeD, wYes, noX, Option.toList, List.getElem?_cons_zero, List.getElem?_cons_succ, List.set_cons_zero, List.set_cons_succ, List.length_cons, List.length_nil, List.headD_cons, List.headD_nil, List.tail_cons, List.tail_nil, List.reverse_cons, List.reverse_nil, List.nil_append, List.cons_append, Nat.zero_add, Bool.false_eq_true, if_true, if_false, ite_true, ite_false, List.contains_cons, List.contains_nil, initR, edOf, outsOf, slotR, List.map_cons, List.map_nil, List.replicate_succ, List.replicate_zero, List.append_nil, Nat.reduceAdd, Nat.reduceSub, Nat.reduceMul, FS_pm, FS_ar, Mo.own, sI, sD, nv, iv, ↓d_fListOf, ↓d_fTupOf, ↓d_parW1, ↓d_parW2, ↓d_sRaise, ↓sIf_eq, ↓wIf_eq, ↓wAndT_eq, ↓wOrT_eq, ↓wAndE_eq, ↓wOrE_eq, ↓sFor_eq, ↓wComp_eq, ↓wCall_eq, ↓sWhile_eq, ↓turnW_eq, brP_true, brP_false, true_and, and_true, pair_eta, atI_0, atI_1, atI_2, atI_3, natsD_cons, natsD_nil, decide_true, decide_false, Bool.not_true, Bool.not_false, Bool.true_xor, Bool.false_xor, Bool.xor_self, few_eq, few_lt, PowOk_iff, Nat.reduceLeDiff, Int.reduceLE, Int.reduceLT, Int.reduceAbs, Int.reduceMul, Int.reduceAdd, Int.reduceSub, Int.reduceNeg, Int.reduceDiv, Int.reduceMod, ↓fEq_int, ↓fEq_str, ↓fEq_bl, ↓fMax2, ↓fMin2, rowD, natsD_len, Nat.reducePow, Nat.reduceLT, Int.reduceToNat, Int.reducePow, and_self, Int.zero_add, List.getD_cons_zero, List.getD_cons_succ, ne_shfr, ne_owfr, ne_bofr, ne_lnfr, Int.toNat_natCast, Nat.one_mul, Nat.reduceBEq, reduceIte, ↓reduceIte, ↓wChain_eq, ↓d_fIsi, ↓d_fRevL, ↓d_fRgL, ↓d_fRgT, tyD, isiB, String.reduceBEq, Bool.or_true, Bool.true_or, Bool.or_false, Bool.false_or, Bool.and_true, Bool.true_and, Bool.and_false, Bool.false_and, ↓fEq_row, ↓fEq_nats, ↓fEq_nats0, rng_nats, ↓fSum_row, ↓fSum_nats, c1]
  refine hK _ ?_
  clear hK K
  walk_at "wk"
  refine seqP fun K hK => ?_
  walk_at "wp"
  refine compP zqF rfl (by rw [List.length_zipWith, natsD_len]; omega) (fun d acc N hd ha hN => ?_) ?_
  · obtain ⟨x, y, rfl⟩ := zip_nats xs ys d hd
    have e : zqF (.tup [.int (x : Int), .int (y : Int)]) = some (.bl (decide (0 < (y : Int)) && decide ((x : Int) = 0))) := by simp only [zqF]
    rw [e] at hN
    walk_at "wp"
    refine brD (fun h => ?_) (fun h => ?_)
    · walk_at "wp"
      rw [decide_eq_true h, Bool.true_and, Option.toList] at hN
      exact ⟨ha, hN⟩
    · walk_at "wp"
      rw [decide_eq_false h, Bool.false_and, Option.toList] at hN
      exact ⟨ha, hN⟩
  have g : (List.zipWith (fun a b => decide (a = 0) && decide (0 < b)) xs ys).any id = gotL xs ys := rfl
  simp only [↓d_sSeq, ↓d_sAsg, ↓d_sExpr, ↓d_sRet, ↓d_sRetN, ↓d_sNext, ↓d_sAug, ↓d_sPar, ↓d_sBreak, ↓d_sCont, ↓d_wTB, ↓d_wTV, ↓d_wNotT, ↓d_wNotE, ↓d_w1, ↓d_w2, ↓d_wN, ↓d_wC, ↓d_wVar, ↓d_wMove, ↓d_wMut, ↓d_wSl, ↓d_oTmp, ↓d_oLoc, ↓d_aNil, ↓d_aCons, ↓d_aRev, res, ress, callA, takeA, nextR, backA, putB, ↓d_gN, ↓d_gTp, ↓d_gsCons, ↓d_gsNil, ↓d_gIx, canSet_eq, free_un, free_sh1, free_ow1, free_fr1, okR, okM, ↓d_pNone, ↓d_pInt, ↓d_fAdd, ↓d_fSub, ↓d_fMul, ↓d_fDiv, ↓d_fMod, ↓d_fPow, ↓d_fShr, ↓d_fShl, ↓d_fAnd, ↓d_fNeg, ↓d_fCmp, ↓d_fLt, ↓d_fLe, ↓d_fGt, ↓d_fGe, ↓d_fIs, ↓d_fIx, ↓d_fIxK, ↓d_fLen, ↓d_fLenK, ↓d_fAbs, ↓fIntOf_bl, ↓fIntOf_int, b2i_true, b2i_false, ↓d_fAddI, ↓d_fMulI, ↓d_fLst, ↓d_fTup, shs, fSeq, fZip, fRev, ↓d_mAppend, ↓d_mExtend, ↓d_mPop0, ↓d_mPopAt, D.isLst, locs, lend, lendI, lent, home, homeI, back1, wipeR, unwipe, ↓d_homeD, wYes, noX, Option.toList, List.getElem?_cons_zero, List.getElem?_cons_succ, List.set_cons_zero, List.set_cons_succ, List.length_cons, List.length_nil, List.headD_cons, List.headD_nil, List.tail_cons, List.tail_nil, List.reverse_cons, List.reverse_nil, List.nil_append, List.cons_append, Nat.zero_add, Bool.false_eq_true, if_true, if_false, ite_true, ite_false, List.contains_cons, List.contains_nil, initR, edOf, outsOf, slotR, List.map_cons, List.map_nil, List.replicate_succ, List.replicate_zero, List.append_nil, Nat.reduceAdd, Nat.reduceSub, Nat.reduceMul, FS_pm, FS_ar, Mo.own, sI, sD, nv, iv, ↓d_fListOf, ↓d_fTupOf, ↓d_parW1, ↓d_parW2, ↓d_sRaise, ↓sIf_eq, ↓wIf_eq, ↓wAndT_eq, ↓wOrT_eq, ↓wAndE_eq, ↓wOrE_eq, ↓sFor_eq, ↓wComp_eq, ↓wCall_eq, ↓sWhile_eq, ↓turnW_eq, brP_true, brP_false, true_and, and_true, pair_eta, atI_0, atI_1, atI_2, atI_3, natsD_cons, natsD_nil, decide_true, decide_false, Bool.not_true, Bool.not_false, Bool.true_xor, Bool.false_xor, Bool.xor_self, few_eq, few_lt, PowOk_iff, Nat.reduceLeDiff, Int.reduceLE, Int.reduceLT, Int.reduceAbs, Int.reduceMul, Int.reduceAdd, Int.reduceSub, Int.reduceNeg, Int.reduceDiv, Int.reduceMod, ↓fEq_int, ↓fEq_str, ↓fEq_bl, ↓fMax2, ↓fMin2, rowD, natsD_len, Nat.reducePow, Nat.reduceLT, Int.reduceToNat, Int.reducePow, and_self, Int.zero_add, List.getD_cons_zero, List.getD_cons_succ, ne_shfr, ne_owfr, ne_bofr, ne_lnfr, Int.toNat_natCast, Nat.one_mul, Nat.reduceBEq, reduceIte, ↓reduceIte, ↓wChain_eq, ↓d_fIsi, ↓d_fRevL, ↓d_fRgL, ↓d_fRgT, tyD, isiB, String.reduceBEq, Bool.or_true, Bool.true_or, Bool.or_false, Bool.false_or, Bool.and_true, Bool.true_and, Bool.and_false, Bool.false_and, ↓fEq_row, ↓fEq_nats, ↓fEq_nats0, rng_nats, ↓fSum_row, ↓fSum_nats, fAny_eq (zqF_all xs ys), g]
  refine hK _ ?_
  clear hK K
  walk_at "wk"
  refine seqP fun K hK => ?_
  simp only [↓d_sSeq, ↓d_sAsg, ↓d_sExpr, ↓d_sRet, ↓d_sRetN, ↓d_sNext, ↓d_sAug, ↓d_sPar, ↓d_sBreak, ↓d_sCont, ↓d_wTB, ↓d_wTV, ↓d_wNotT, ↓d_wNotE, ↓d_w1, ↓d_w2, ↓d_wN, ↓d_wC, ↓d_wVar, ↓d_wMove, ↓d_wMut, ↓d_wSl, ↓d_oTmp, ↓d_oLoc, ↓d_aNil, ↓d_aCons, ↓d_aRev, res, ress, callA, takeA, nextR, backA, putB, ↓d_gN, ↓d_gTp, ↓d_gsCons, ↓d_gsNil, ↓d_gIx, canSet_eq, free_un, free_sh1, free_ow1, free_fr1, okR, okM, ↓d_pNone, ↓d_pInt, ↓d_fAdd, ↓d_fSub, ↓d_fMul, ↓d_fDiv, ↓d_fMod, ↓d_fPow, ↓d_fShr, ↓d_fShl, ↓d_fAnd, ↓d_fNeg, ↓d_fCmp, ↓d_fLt, ↓d_fLe, ↓d_fGt, ↓d_fGe, ↓d_fIs, ↓d_fIx, ↓d_fIxK, ↓d_fLen, ↓d_fLenK, ↓d_fAbs, ↓fIntOf_bl, ↓fIntOf_int, b2i_true, b2i_false, ↓d_fAddI, ↓d_fMulI, ↓d_fLst, ↓d_fTup, shs, fSeq, fZip, fRev, ↓d_mAppend, ↓d_mExtend, ↓d_mPop0, ↓d_mPopAt, D.isLst, locs, lend, lendI, lent, home, homeI, back1, wipeR, unwipe, ↓d_homeD, wYes, noX, Option.toList, List.getElem?_cons_zero, List.getElem?_cons_succ, List.set_cons_zero, List.set_cons_succ, List.length_cons, List.length_nil, List.headD_cons, List.headD_nil, List.tail_cons, List.tail_nil, List.reverse_cons, List.reverse_nil, List.nil_append, List.cons_append, Nat.zero_add, Bool.false_eq_true, if_true, if_false, ite_true, ite_false, List.contains_cons, List.contains_nil, initR, edOf, outsOf, slotR, List.map_cons, List.map_nil, List.replicate_succ, List.replicate_zero, List.append_nil, Nat.reduceAdd, Nat.reduceSub, Nat.reduceMul, FS_pm, FS_ar, Mo.own, sI, sD, nv, iv, ↓d_fListOf, ↓d_fTupOf, ↓d_parW1, ↓d_parW2, ↓d_sRaise, ↓sIf_eq, ↓wIf_eq, ↓wAndT_eq, ↓wOrT_eq, ↓wAndE_eq, ↓wOrE_eq, ↓sFor_eq, ↓wComp_eq, ↓wCall_eq, ↓sWhile_eq, ↓turnW_eq, brP_true, brP_false, true_and, and_true, pair_eta, atI_0, atI_1, atI_2, atI_3, natsD_cons, natsD_nil, decide_true, decide_false, Bool.not_true, Bool.not_false, Bool.true_xor, Bool.false_xor, Bool.xor_self, few_eq, few_lt, PowOk_iff, Nat.reduceLeDiff, Int.reduceLE, Int.reduceLT, Int.reduceAbs, Int.reduceMul, Int.reduceAdd, Int.reduceSub, Int.reduceNeg, Int.reduceDiv, Int.reduceMod, ↓fEq_int, ↓fEq_str, ↓fEq_bl, ↓fMax2, ↓fMin2, rowD, natsD_len, Nat.reducePow, Nat.reduceLT, Int.reduceToNat, Int.reducePow, and_self, Int.zero_add, List.getD_cons_zero, List.getD_cons_succ, ne_shfr, ne_owfr, ne_bofr, ne_lnfr, Int.toNat_natCast, Nat.one_mul, Nat.reduceBEq, reduceIte, ↓reduceIte, ↓wChain_eq, ↓d_fIsi, ↓d_fRevL, ↓d_fRgL, ↓d_fRgT, tyD, isiB, String.reduceBEq, Bool.or_true, Bool.true_or, Bool.or_false, Bool.false_or, Bool.and_true, Bool.true_and, Bool.and_false, Bool.false_and, ↓fEq_row, ↓fEq_nats, ↓fEq_nats0, rng_nats, ↓fSum_row, ↓fSum_nats, c2, c3]
  refine hK _ ?_
  clear hK K
  walk_at "wk"
  refine seqP fun K hK => ?_
  have K1 : K [sD (rowD xs), sD (rowD ys), sD (.tup (natsD [xs.sum, od (gcdL xs), tw (gcdL xs), oddN xs])), sD (.tup (natsD [ys.sum, od (gcdL ys), tw (gcdL ys), oddN ys])), .un, sD (.bl (decide (tw (gcdL ys) = tw (gcdL xs)))), sI (hn ys),
      .dat .ow (.lst ((wsOf xs ys).map fun p => lbD p.1 p.2)), .un, .un, .un, .un] := by
    refine hK _ ?_
    clear hK K
    generalize hws : wsOf xs ys = ws
    have hwl : ws.length = 6 := by rw [← hws]; rfl
    have hlast : (ws.flatMap fun p => w1? p.2 p.1) = lastL xs ys := by
      rw [← hws]
      unfold wsOf
      simp only [List.flatMap_cons, List.flatMap_nil, List.append_nil]
      unfold lastL
      simp only [List.append_assoc]
    walk_at "wk"
    refine seqP fun K hK => ?_
    walk_at "wp"
    refine compP pkF (items := ws.map fun p : Str × Bool => lbD p.1 p.2) rfl (by rw [List.length_map, hwl]; exact few (by decide)) (fun d acc N hd ha hN => ?_) ?_
    · obtain ⟨⟨w, b⟩, _, rfl⟩ := List.mem_map.mp hd
      unfold lbD at hN ⊢
      walk_at "wp"
      cases b with
      | true =>
        walk_at "wp"
        exact ⟨ha, hN⟩
      | false =>
        walk_at "wp"
        have e : pkF (.tup [.str w, .bl false]) = none := rfl
        rw [e, Option.toList, List.append_nil] at hN
        exact hN
    rw [pk_all, hlast]
    walk_at "wp"
    refine hK _ ?_
    clear hK K
    have e0 : ∀ {n m : Mo} {Q : R → Prop}, fEq false (n, .lst (strsD (lastL xs ys))) (m, .lst []) Q = Q (.sh, .bl (false ^^ decide (lastL xs ys = []))) := fun {n m Q} => fEq_strs (ys := []) lastL_ok nofun
    walk_at "wk"
    refine seqP fun K hK => ?_
    have fin : K [sD (rowD xs), sD (rowD ys), sD (.tup (natsD [xs.sum, od (gcdL xs), tw (gcdL xs), oddN xs])), sD (.tup (natsD [ys.sum, od (gcdL ys), tw (gcdL ys), oddN ys])), .un, sD (.bl (decide (tw (gcdL ys) = tw (gcdL xs)))), sI (hn ys), .dat .ow (.lst (ws.map fun p => lbD p.1 p.2)), .un, .un, .un, .dat .ow (.lst (strsD (lastL xs ys)))] := by
      refine hK _ ?_
      walk_at "wp"
      exact hQ _ _ ⟨rfl, rfl⟩
    clear hK
    simp only [↓d_sSeq, ↓d_sAsg, ↓d_sExpr, ↓d_sRet, ↓d_sRetN, ↓d_sNext, ↓d_sAug, ↓d_sPar, ↓d_sBreak, ↓d_sCont, ↓d_wTB, ↓d_wTV, ↓d_wNotT, ↓d_wNotE, ↓d_w1, ↓d_w2, ↓d_wN, ↓d_wC, ↓d_wVar, ↓d_wMove, ↓d_wMut, ↓d_wSl, ↓d_oTmp, ↓d_oLoc, ↓d_aNil, ↓d_aCons, ↓d_aRev, res, ress, callA, takeA, nextR, backA, putB, ↓d_gN, ↓d_gTp, ↓d_gsCons, ↓d_gsNil, ↓d_gIx, canSet_eq, free_un, free_sh1, free_ow1, free_fr1, okR, okM, ↓d_pNone, ↓d_pInt, ↓d_fAdd, ↓d_fSub, ↓d_fMul, ↓d_fDiv, ↓d_fMod, ↓d_fPow, ↓d_fShr, ↓d_fShl, ↓d_fAnd, ↓d_fNeg, ↓d_fCmp, ↓d_fLt, ↓d_fLe, ↓d_fGt, ↓d_fGe, ↓d_fIs, ↓d_fIx, ↓d_fIxK, ↓d_fLen, ↓d_fLenK, ↓d_fAbs, ↓fIntOf_bl, ↓fIntOf_int, b2i_true, b2i_false, ↓d_fAddI, ↓d_fMulI, ↓d_fLst, ↓d_fTup, shs, fSeq, fZip, fRev, ↓d_mAppend, ↓d_mExtend, ↓d_mPop0, ↓d_mPopAt, D.isLst, locs, lend, lendI, lent, home, homeI, back1, wipeR, unwipe, ↓d_homeD, wYes, noX, Option.toList, List.getElem?_cons_zero, List.getElem?_cons_succ, List.set_cons_zero, List.set_cons_succ, List.length_cons, List.length_nil, List.headD_cons, List.headD_nil, List.tail_cons, List.tail_nil, List.reverse_cons, List.reverse_nil, List.nil_append, List.cons_append, Nat.zero_add, Bool.false_eq_true, if_true, if_false, ite_true, ite_false, List.contains_cons, List.contains_nil, initR, edOf, outsOf, slotR, List.map_cons, List.map_nil, List.replicate_succ, List.replicate_zero, List.append_nil, Nat.reduceAdd, Nat.reduceSub, Nat.reduceMul, FS_pm, FS_ar, Mo.own, sI, sD, nv, iv, ↓d_fListOf, ↓d_fTupOf, ↓d_parW1, ↓d_parW2, ↓d_sRaise, ↓sIf_eq, ↓wIf_eq, ↓wAndT_eq, ↓wOrT_eq, ↓wAndE_eq, ↓wOrE_eq, ↓sFor_eq, ↓wComp_eq, ↓wCall_eq, ↓sWhile_eq, ↓turnW_eq, brP_true, brP_false, true_and, and_true, pair_eta, atI_0, atI_1, atI_2, atI_3, natsD_cons, natsD_nil, decide_true, decide_false, Bool.not_true, Bool.not_false, Bool.true_xor, Bool.false_xor, Bool.xor_self, few_eq, few_lt, PowOk_iff, Nat.reduceLeDiff, Int.reduceLE, Int.reduceLT, Int.reduceAbs, Int.reduceMul, Int.reduceAdd, Int.reduceSub, Int.reduceNeg, Int.reduceDiv, Int.reduceMod, ↓fEq_int, ↓fEq_str, ↓fEq_bl, ↓fMax2, ↓fMin2, rowD, natsD_len, Nat.reducePow, Nat.reduceLT, Int.reduceToNat, Int.reducePow, and_self, Int.zero_add, List.getD_cons_zero, List.getD_cons_succ, ne_shfr, ne_owfr, ne_bofr, ne_lnfr, Int.toNat_natCast, Nat.one_mul, Nat.reduceBEq, reduceIte, ↓reduceIte, ↓wChain_eq, ↓d_fIsi, ↓d_fRevL, ↓d_fRgL, ↓d_fRgT, tyD, isiB, String.reduceBEq, Bool.or_true, Bool.true_or, Bool.or_false, Bool.false_or, Bool.and_true, Bool.true_and, Bool.and_false, Bool.false_and, ↓fEq_row, ↓fEq_nats, ↓fEq_nats0, rng_nats, ↓fSum_row, ↓fSum_nats, e0]
    refine brD (fun h7 => ?_) (fun h7 => ?_)
    · walk_at "wp"
      refine compFT (fun x => decide (0 < x)) id (by omega) (fun n hn acc N ha h7 h8 => ?_) ?_
      · walk_at "wp"
        refine brD (fun h9 => ?_) (fun h9 => ?_)
        · walk_at "wp"
          exact ⟨ha, h7 (decide_eq_true (by omega))⟩
        · walk_at "wp"
          exact h8 (decide_eq_false (by omega))
      have := h5 h h6 h7
      simp only [↓d_sSeq, ↓d_sAsg, ↓d_sExpr, ↓d_sRet, ↓d_sRetN, ↓d_sNext, ↓d_sAug, ↓d_sPar, ↓d_sBreak, ↓d_sCont, ↓d_wTB, ↓d_wTV, ↓d_wNotT, ↓d_wNotE, ↓d_w1, ↓d_w2, ↓d_wN, ↓d_wC, ↓d_wVar, ↓d_wMove, ↓d_wMut, ↓d_wSl, ↓d_oTmp, ↓d_oLoc, ↓d_aNil, ↓d_aCons, ↓d_aRev, res, ress, callA, takeA, nextR, backA, putB, ↓d_gN, ↓d_gTp, ↓d_gsCons, ↓d_gsNil, ↓d_gIx, canSet_eq, free_un, free_sh1, free_ow1, free_fr1, okR, okM, ↓d_pNone, ↓d_pInt, ↓d_fAdd, ↓d_fSub, ↓d_fMul, ↓d_fDiv, ↓d_fMod, ↓d_fPow, ↓d_fShr, ↓d_fShl, ↓d_fAnd, ↓d_fNeg, ↓d_fCmp, ↓d_fLt, ↓d_fLe, ↓d_fGt, ↓d_fGe, ↓d_fIs, ↓d_fIx, ↓d_fIxK, ↓d_fLen, ↓d_fLenK, ↓d_fAbs, ↓fIntOf_bl, ↓fIntOf_int, b2i_true, b2i_false, ↓d_fAddI, ↓d_fMulI, ↓d_fLst, ↓d_fTup, shs, fSeq, fZip, fRev, ↓d_mAppend, ↓d_mExtend, ↓d_mPop0, ↓d_mPopAt, D.isLst, locs, lend, lendI, lent, home, homeI, back1, wipeR, unwipe, ↓d_homeD, wYes, noX, Option.toList, List.getElem?_cons_zero, List.getElem?_cons_succ, List.set_cons_zero, List.set_cons_succ, List.length_cons, List.length_nil, List.headD_cons, List.headD_nil, List.tail_cons, List.tail_nil, List.reverse_cons, List.reverse_nil, List.nil_append, List.cons_append, Nat.zero_add, Bool.false_eq_true, if_true, if_false, ite_true, ite_false, List.contains_cons, List.contains_nil, initR, edOf, outsOf, slotR, List.map_cons, List.map_nil, List.replicate_succ, List.replicate_zero, List.append_nil, Nat.reduceAdd, Nat.reduceSub, Nat.reduceMul, FS_pm, FS_ar, Mo.own, sI, sD, nv, iv, ↓d_fListOf, ↓d_fTupOf, ↓d_parW1, ↓d_parW2, ↓d_sRaise, ↓sIf_eq, ↓wIf_eq, ↓wAndT_eq, ↓wOrT_eq, ↓wAndE_eq, ↓wOrE_eq, ↓sFor_eq, ↓wComp_eq, ↓wCall_eq, ↓sWhile_eq, ↓turnW_eq, brP_true, brP_false, true_and, and_true, pair_eta, atI_0, atI_1, atI_2, atI_3, natsD_cons, natsD_nil, decide_true, decide_false, Bool.not_true, Bool.not_false, Bool.true_xor, Bool.false_xor, Bool.xor_self, few_eq, few_lt, PowOk_iff, Nat.reduceLeDiff, Int.reduceLE, Int.reduceLT, Int.reduceAbs, Int.reduceMul, Int.reduceAdd, Int.reduceSub, Int.reduceNeg, Int.reduceDiv, Int.reduceMod, ↓fEq_int, ↓fEq_str, ↓fEq_bl, ↓fMax2, ↓fMin2, rowD, natsD_len, Nat.reducePow, Nat.reduceLT, Int.reduceToNat, Int.reducePow, and_self, Int.zero_add, List.getD_cons_zero, List.getD_cons_succ, ne_shfr, ne_owfr, ne_bofr, ne_lnfr, Int.toNat_natCast, Nat.one_mul, Nat.reduceBEq, reduceIte, ↓reduceIte, ↓wChain_eq, ↓d_fIsi, ↓d_fRevL, ↓d_fRgL, ↓d_fRgT, tyD, isiB, String.reduceBEq, Bool.or_true, Bool.true_or, Bool.or_false, Bool.false_or, Bool.and_true, Bool.true_and, Bool.and_false, Bool.false_and, ↓fEq_row, ↓fEq_nats, ↓fEq_nats0, rng_nats, ↓fSum_row, ↓fSum_nats, hn_eq]
      refine brF (decide_eq_false (by omega)) ?_
      exact brF rfl fin
    · exact brF rfl fin
  clear hK
  simp only [↓d_sSeq, ↓d_sAsg, ↓d_sExpr, ↓d_sRet, ↓d_sRetN, ↓d_sNext, ↓d_sAug, ↓d_sPar, ↓d_sBreak, ↓d_sCont, ↓d_wTB, ↓d_wTV, ↓d_wNotT, ↓d_wNotE, ↓d_w1, ↓d_w2, ↓d_wN, ↓d_wC, ↓d_wVar, ↓d_wMove, ↓d_wMut, ↓d_wSl, ↓d_oTmp, ↓d_oLoc, ↓d_aNil, ↓d_aCons, ↓d_aRev, res, ress, callA, takeA, nextR, backA, putB, ↓d_gN, ↓d_gTp, ↓d_gsCons, ↓d_gsNil, ↓d_gIx, canSet_eq, free_un, free_sh1, free_ow1, free_fr1, okR, okM, ↓d_pNone, ↓d_pInt, ↓d_fAdd, ↓d_fSub, ↓d_fMul, ↓d_fDiv, ↓d_fMod, ↓d_fPow, ↓d_fShr, ↓d_fShl, ↓d_fAnd, ↓d_fNeg, ↓d_fCmp, ↓d_fLt, ↓d_fLe, ↓d_fGt, ↓d_fGe, ↓d_fIs, ↓d_fIx, ↓d_fIxK, ↓d_fLen, ↓d_fLenK, ↓d_fAbs, ↓fIntOf_bl, ↓fIntOf_int, b2i_true, b2i_false, ↓d_fAddI, ↓d_fMulI, ↓d_fLst, ↓d_fTup, shs, fSeq, fZip, fRev, ↓d_mAppend, ↓d_mExtend, ↓d_mPop0, ↓d_mPopAt, D.isLst, locs, lend, lendI, lent, home, homeI, back1, wipeR, unwipe, ↓d_homeD, wYes, noX, Option.toList, List.getElem?_cons_zero, List.getElem?_cons_succ, List.set_cons_zero, List.set_cons_succ, List.length_cons, List.length_nil, List.headD_cons, List.headD_nil, List.tail_cons, List.tail_nil, List.reverse_cons, List.reverse_nil, List.nil_append, List.cons_append, Nat.zero_add, Bool.false_eq_true, if_true, if_false, ite_true, ite_false, List.contains_cons, List.contains_nil, initR, edOf, outsOf, slotR, List.map_cons, List.map_nil, List.replicate_succ, List.replicate_zero, List.append_nil, Nat.reduceAdd, Nat.reduceSub, Nat.reduceMul, FS_pm, FS_ar, Mo.own, sI, sD, nv, iv, ↓d_fListOf, ↓d_fTupOf, ↓d_parW1, ↓d_parW2, ↓d_sRaise, ↓sIf_eq, ↓wIf_eq, ↓wAndT_eq, ↓wOrT_eq, ↓wAndE_eq, ↓wOrE_eq, ↓sFor_eq, ↓wComp_eq, ↓wCall_eq, ↓sWhile_eq, ↓turnW_eq, brP_true, brP_false, true_and, and_true, pair_eta, atI_0, atI_1, atI_2, atI_3, natsD_cons, natsD_nil, decide_true, decide_false, Bool.not_true, Bool.not_false, Bool.true_xor, Bool.false_xor, Bool.xor_self, few_eq, few_lt, PowOk_iff, Nat.reduceLeDiff, Int.reduceLE, Int.reduceLT, Int.reduceAbs, Int.reduceMul, Int.reduceAdd, Int.reduceSub, Int.reduceNeg, Int.reduceDiv, Int.reduceMod, ↓fEq_int, ↓fEq_str, ↓fEq_bl, ↓fMax2, ↓fMin2, rowD, natsD_len, Nat.reducePow, Nat.reduceLT, Int.reduceToNat, Int.reducePow, and_self, Int.zero_add, List.getD_cons_zero, List.getD_cons_succ, ne_shfr, ne_owfr, ne_bofr, ne_lnfr, Int.toNat_natCast, Nat.one_mul, Nat.reduceBEq, reduceIte, ↓reduceIte, ↓wChain_eq, ↓d_fIsi, ↓d_fRevL, ↓d_fRgL, ↓d_fRgT, tyD, isiB, String.reduceBEq, Bool.or_true, Bool.true_or, Bool.or_false, Bool.false_or, Bool.and_true, Bool.true_and, Bool.and_false, Bool.false_and, ↓fEq_row, ↓fEq_nats, ↓fEq_nats0, rng_nats, ↓fSum_row, ↓fSum_nats, c4]
  cases ha : decide (tw (gcdL ys) = tw (gcdL xs)) with
  | true =>
    unfold wsOf at K1
    rw [ha] at K1
    simp only [↓d_sSeq, ↓d_sAsg, ↓d_sExpr, ↓d_sRet, ↓d_sRetN, ↓d_sNext, ↓d_sAug, ↓d_sPar, ↓d_sBreak, ↓d_sCont, ↓d_wTB, ↓d_wTV, ↓d_wNotT, ↓d_wNotE, ↓d_w1, ↓d_w2, ↓d_wN, ↓d_wC, ↓d_wVar, ↓d_wMove, ↓d_wMut, ↓d_wSl, ↓d_oTmp, ↓d_oLoc, ↓d_aNil, ↓d_aCons, ↓d_aRev, res, ress, callA, takeA, nextR, backA, putB, ↓d_gN, ↓d_gTp, ↓d_gsCons, ↓d_gsNil, ↓d_gIx, canSet_eq, free_un, free_sh1, free_ow1, free_fr1, okR, okM, ↓d_pNone, ↓d_pInt, ↓d_fAdd, ↓d_fSub, ↓d_fMul, ↓d_fDiv, ↓d_fMod, ↓d_fPow, ↓d_fShr, ↓d_fShl, ↓d_fAnd, ↓d_fNeg, ↓d_fCmp, ↓d_fLt, ↓d_fLe, ↓d_fGt, ↓d_fGe, ↓d_fIs, ↓d_fIx, ↓d_fIxK, ↓d_fLen, ↓d_fLenK, ↓d_fAbs, ↓fIntOf_bl, ↓fIntOf_int, b2i_true, b2i_false, ↓d_fAddI, ↓d_fMulI, ↓d_fLst, ↓d_fTup, shs, fSeq, fZip, fRev, ↓d_mAppend, ↓d_mExtend, ↓d_mPop0, ↓d_mPopAt, D.isLst, locs, lend, lendI, lent, home, homeI, back1, wipeR, unwipe, ↓d_homeD, wYes, noX, Option.toList, List.getElem?_cons_zero, List.getElem?_cons_succ, List.set_cons_zero, List.set_cons_succ, List.length_cons, List.length_nil, List.headD_cons, List.headD_nil, List.tail_cons, List.tail_nil, List.reverse_cons, List.reverse_nil, List.nil_append, List.cons_append, Nat.zero_add, Bool.false_eq_true, if_true, if_false, ite_true, ite_false, List.contains_cons, List.contains_nil, initR, edOf, outsOf, slotR, List.map_cons, List.map_nil, List.replicate_succ, List.replicate_zero, List.append_nil, Nat.reduceAdd, Nat.reduceSub, Nat.reduceMul, FS_pm, FS_ar, Mo.own, sI, sD, nv, iv, ↓d_fListOf, ↓d_fTupOf, ↓d_parW1, ↓d_parW2, ↓d_sRaise, ↓sIf_eq, ↓wIf_eq, ↓wAndT_eq, ↓wOrT_eq, ↓wAndE_eq, ↓wOrE_eq, ↓sFor_eq, ↓wComp_eq, ↓wCall_eq, ↓sWhile_eq, ↓turnW_eq, brP_true, brP_false, true_and, and_true, pair_eta, atI_0, atI_1, atI_2, atI_3, natsD_cons, natsD_nil, decide_true, decide_false, Bool.not_true, Bool.not_false, Bool.true_xor, Bool.false_xor, Bool.xor_self, few_eq, few_lt, PowOk_iff, Nat.reduceLeDiff, Int.reduceLE, Int.reduceLT, Int.reduceAbs, Int.reduceMul, Int.reduceAdd, Int.reduceSub, Int.reduceNeg, Int.reduceDiv, Int.reduceMod, ↓fEq_int, ↓fEq_str, ↓fEq_bl, ↓fMax2, ↓fMin2, rowD, natsD_len, Nat.reducePow, Nat.reduceLT, Int.reduceToNat, Int.reducePow, and_self, Int.zero_add, List.getD_cons_zero, List.getD_cons_succ, ne_shfr, ne_owfr, ne_bofr, ne_lnfr, Int.toNat_natCast, Nat.one_mul, Nat.reduceBEq, reduceIte, ↓reduceIte, ↓wChain_eq, ↓d_fIsi, ↓d_fRevL, ↓d_fRgL, ↓d_fRgT, tyD, isiB, String.reduceBEq, Bool.or_true, Bool.true_or, Bool.or_false, Bool.false_or, Bool.and_true, Bool.true_and, Bool.and_false, Bool.false_and, ↓fEq_row, ↓fEq_nats, ↓fEq_nats0, rng_nats, ↓fSum_row, ↓fSum_nats, c5, c6]
    exact K1
  | false =>
    unfold wsOf at K1
    rw [ha] at K1
    simp only [↓d_sSeq, ↓d_sAsg, ↓d_sExpr, ↓d_sRet, ↓d_sRetN, ↓d_sNext, ↓d_sAug, ↓d_sPar, ↓d_sBreak, ↓d_sCont, ↓d_wTB, ↓d_wTV, ↓d_wNotT, ↓d_wNotE, ↓d_w1, ↓d_w2, ↓d_wN, ↓d_wC, ↓d_wVar, ↓d_wMove, ↓d_wMut, ↓d_wSl, ↓d_oTmp, ↓d_oLoc, ↓d_aNil, ↓d_aCons, ↓d_aRev, res, ress, callA, takeA, nextR, backA, putB, ↓d_gN, ↓d_gTp, ↓d_gsCons, ↓d_gsNil, ↓d_gIx, canSet_eq, free_un, free_sh1, free_ow1, free_fr1, okR, okM, ↓d_pNone, ↓d_pInt, ↓d_fAdd, ↓d_fSub, ↓d_fMul, ↓d_fDiv, ↓d_fMod, ↓d_fPow, ↓d_fShr, ↓d_fShl, ↓d_fAnd, ↓d_fNeg, ↓d_fCmp, ↓d_fLt, ↓d_fLe, ↓d_fGt, ↓d_fGe, ↓d_fIs, ↓d_fIx, ↓d_fIxK, ↓d_fLen, ↓d_fLenK, ↓d_fAbs, ↓fIntOf_bl, ↓fIntOf_int, b2i_true, b2i_false, ↓d_fAddI, ↓d_fMulI, ↓d_fLst, ↓d_fTup, shs, fSeq, fZip, fRev, ↓d_mAppend, ↓d_mExtend, ↓d_mPop0, ↓d_mPopAt, D.isLst, locs, lend, lendI, lent, home, homeI, back1, wipeR, unwipe, ↓d_homeD, wYes, noX, Option.toList, List.getElem?_cons_zero, List.getElem?_cons_succ, List.set_cons_zero, List.set_cons_succ, List.length_cons, List.length_nil, List.headD_cons, List.headD_nil, List.tail_cons, List.tail_nil, List.reverse_cons, List.reverse_nil, List.nil_append, List.cons_append, Nat.zero_add, Bool.false_eq_true, if_true, if_false, ite_true, ite_false, List.contains_cons, List.contains_nil, initR, edOf, outsOf, slotR, List.map_cons, List.map_nil, List.replicate_succ, List.replicate_zero, List.append_nil, Nat.reduceAdd, Nat.reduceSub, Nat.reduceMul, FS_pm, FS_ar, Mo.own, sI, sD, nv, iv, ↓d_fListOf, ↓d_fTupOf, ↓d_parW1, ↓d_parW2, ↓d_sRaise, ↓sIf_eq, ↓wIf_eq, ↓wAndT_eq, ↓wOrT_eq, ↓wAndE_eq, ↓wOrE_eq, ↓sFor_eq, ↓wComp_eq, ↓wCall_eq, ↓sWhile_eq, ↓turnW_eq, brP_true, brP_false, true_and, and_true, pair_eta, atI_0, atI_1, atI_2, atI_3, natsD_cons, natsD_nil, decide_true, decide_false, Bool.not_true, Bool.not_false, Bool.true_xor, Bool.false_xor, Bool.xor_self, few_eq, few_lt, PowOk_iff, Nat.reduceLeDiff, Int.reduceLE, Int.reduceLT, Int.reduceAbs, Int.reduceMul, Int.reduceAdd, Int.reduceSub, Int.reduceNeg, Int.reduceDiv, Int.reduceMod, ↓fEq_int, ↓fEq_str, ↓fEq_bl, ↓fMax2, ↓fMin2, rowD, natsD_len, Nat.reducePow, Nat.reduceLT, Int.reduceToNat, Int.reducePow, and_self, Int.zero_add, List.getD_cons_zero, List.getD_cons_succ, ne_shfr, ne_owfr, ne_bofr, ne_lnfr, Int.toNat_natCast, Nat.one_mul, Nat.reduceBEq, reduceIte, ↓reduceIte, ↓wChain_eq, ↓d_fIsi, ↓d_fRevL, ↓d_fRgL, ↓d_fRgT, tyD, isiB, String.reduceBEq, Bool.or_true, Bool.true_or, Bool.or_false, Bool.false_or, Bool.and_true, Bool.true_and, Bool.and_false, Bool.false_and, ↓fEq_row, ↓fEq_nats, ↓fEq_nats0, rng_nats, ↓fSum_row, ↓fSum_nats, c5, c6]
    exact K1
end G
end
section
set_option Elab.async false
set_option linter.all false
set_option maxRecDepth 100000
set_option maxHeartbeats 1000000
set_option exponentiation.threshold 100000
namespace G
open PySem PySem.Spec L2
local macro_rules | `(tactic| walk_at "wk") => `(tactic| simp only [↓sSeq_eq, ↓d_sAsg, ↓d_sExpr, ↓d_sRet, ↓d_sRetN, ↓d_sNext, ↓d_sAug, ↓d_sPar, ↓d_sBreak, ↓d_sCont, ↓d_wTB, ↓d_wTV, ↓d_wNotT, ↓d_wNotE, ↓d_w1, ↓d_w2, ↓d_wN, ↓d_wC, ↓d_wVar, ↓d_wMove, ↓d_wMut, ↓d_wSl, ↓d_oTmp, ↓d_oLoc, ↓d_aNil, ↓d_aCons, ↓d_aRev, res, ress, callA, takeA, nextR, backA, putB, ↓d_gN, ↓d_gTp, ↓d_gsCons, ↓d_gsNil, ↓d_gIx, canSet_eq, free_un, free_sh1, free_ow1, free_fr1, okR, okM, ↓d_pNone, ↓d_pInt, ↓d_fAdd, ↓d_fSub, ↓d_fMul, ↓d_fDiv, ↓d_fMod, ↓d_fPow, ↓d_fShr, ↓d_fShl, ↓d_fAnd, ↓d_fNeg, ↓d_fCmp, ↓d_fLt, ↓d_fLe, ↓d_fGt, ↓d_fGe, ↓d_fIs, ↓d_fIx, ↓d_fIxK, ↓d_fLen, ↓d_fLenK, ↓d_fAbs, ↓fIntOf_bl, ↓fIntOf_int, b2i_true, b2i_false, ↓d_fAddI, ↓d_fMulI, ↓d_fLst, ↓d_fTup, shs, fSeq, fZip, fRev, ↓d_mAppend, ↓d_mExtend, ↓d_mPop0, ↓d_mPopAt, D.isLst, locs, lend, lendI, lent, home, homeI, back1, wipeR, unwipe, ↓d_homeD, wYes, noX, Option.toList, List.getElem?_cons_zero, List.getElem?_cons_succ, List.set_cons_zero, List.set_cons_succ, List.length_cons, List.length_nil, List.headD_cons, List.headD_nil, List.tail_cons, List.tail_nil, List.reverse_cons, List.reverse_nil, List.nil_append, List.cons_append, Nat.zero_add, Bool.false_eq_true, if_true, if_false, ite_true, ite_false, List.contains_cons, List.contains_nil, initR, edOf, outsOf, slotR, List.map_cons, List.map_nil, List.replicate_succ, List.replicate_zero, List.append_nil, Nat.reduceAdd, Nat.reduceSub, Nat.reduceMul, FS_pm, FS_ar, Mo.own, sI, sD, nv, iv, ↓d_fListOf, ↓d_fTupOf, ↓d_parW1, ↓d_parW2, ↓d_sRaise, ↓sIf_eq, ↓wIf_eq, ↓wAndT_eq, ↓wOrT_eq, ↓wAndE_eq, ↓wOrE_eq, ↓sFor_eq, ↓wComp_eq, ↓wCall_eq, ↓sWhile_eq, ↓turnW_eq, brP_true, brP_false, true_and, and_true, pair_eta, atI_0, atI_1, atI_2, atI_3, natsD_cons, natsD_nil, decide_true, decide_false, Bool.not_true, Bool.not_false, Bool.true_xor, Bool.false_xor, Bool.xor_self, few_eq, few_lt, PowOk_iff, Nat.reduceLeDiff, Int.reduceLE, Int.reduceLT, Int.reduceAbs, Int.reduceMul, Int.reduceAdd, Int.reduceSub, Int.reduceNeg, Int.reduceDiv, Int.reduceMod, ↓fEq_int, ↓fEq_str, ↓fEq_bl, ↓fMax2, ↓fMin2, rowD, natsD_len, Nat.reducePow, Nat.reduceLT, Int.reduceToNat, Int.reducePow, and_self, Int.zero_add, List.getD_cons_zero, List.getD_cons_succ, ne_shfr, ne_owfr, ne_bofr, ne_lnfr, Int.toNat_natCast, Nat.one_mul, Nat.reduceBEq, reduceIte, ↓reduceIte, ↓wChain_eq, ↓d_fIsi, ↓d_fRevL, ↓d_fRgL, ↓d_fRgT, tyD, isiB, String.reduceBEq, Bool.or_true, Bool.true_or, Bool.or_false, Bool.false_or, Bool.and_true, Bool.true_and, Bool.and_false, Bool.false_and, ↓fEq_row, ↓fEq_nats, ↓fEq_nats0, rng_nats, ↓fSum_row, ↓fSum_nats])
local macro_rules | `(tactic| walk_at "wp") => `(tactic| simp only [↓d_sSeq, ↓d_sAsg, ↓d_sExpr, ↓d_sRet, ↓d_sRetN, ↓d_sNext, ↓d_sAug, ↓d_sPar, ↓d_sBreak, ↓d_sCont, ↓d_wTB, ↓d_wTV, ↓d_wNotT, ↓d_wNotE, ↓d_w1, ↓d_w2, ↓d_wN, ↓d_wC, ↓d_wVar, ↓d_wMove, ↓d_wMut, ↓d_wSl, ↓d_oTmp, ↓d_oLoc, ↓d_aNil, ↓d_aCons, ↓d_aRev, res, ress, callA, takeA, nextR, backA, putB, ↓d_gN, ↓d_gTp, ↓d_gsCons, ↓d_gsNil, ↓d_gIx, canSet_eq, free_un, free_sh1, free_ow1, free_fr1, okR, okM, ↓d_pNone, ↓d_pInt, ↓d_fAdd, ↓d_fSub, ↓d_fMul, ↓d_fDiv, ↓d_fMod, ↓d_fPow, ↓d_fShr, ↓d_fShl, ↓d_fAnd, ↓d_fNeg, ↓d_fCmp, ↓d_fLt, ↓d_fLe, ↓d_fGt, ↓d_fGe, ↓d_fIs, ↓d_fIx, ↓d_fIxK, ↓d_fLen, ↓d_fLenK, ↓d_fAbs, ↓fIntOf_bl, ↓fIntOf_int, b2i_true, b2i_false, ↓d_fAddI, ↓d_fMulI, ↓d_fLst, ↓d_fTup, shs, fSeq, fZip, fRev, ↓d_mAppend, ↓d_mExtend, ↓d_mPop0, ↓d_mPopAt, D.isLst, locs, lend, lendI, lent, home, homeI, back1, wipeR, unwipe, ↓d_homeD, wYes, noX, Option.toList, List.getElem?_cons_zero, List.getElem?_cons_succ, List.set_cons_zero, List.set_cons_succ, List.length_cons, List.length_nil, List.headD_cons, List.headD_nil, List.tail_cons, List.tail_nil, List.reverse_cons, List.reverse_nil, List.nil_append, List.cons_append, Nat.zero_add, Bool.false_eq_true, if_true, if_false, ite_true, ite_false, List.contains_cons, List.contains_nil, initR, edOf, outsOf, slotR, List.map_cons, List.map_nil, List.replicate_succ, List.replicate_zero, List.append_nil, Nat.reduceAdd, Nat.reduceSub, Nat.reduceMul, FS_pm, FS_ar, Mo.own, sI, sD, nv, iv, ↓d_fListOf, ↓d_fTupOf, ↓d_parW1, ↓d_parW2, ↓d_sRaise, ↓sIf_eq, ↓wIf_eq, ↓wAndT_eq, ↓wOrT_eq, ↓wAndE_eq, ↓wOrE_eq, ↓sFor_eq, ↓wComp_eq, ↓wCall_eq, ↓sWhile_eq, ↓turnW_eq, brP_true, brP_false, true_and, and_true, pair_eta, atI_0, atI_1, atI_2, atI_3, natsD_cons, natsD_nil, decide_true, decide_false, Bool.not_true, Bool.not_false, Bool.true_xor, Bool.false_xor, Bool.xor_self, few_eq, few_lt, PowOk_iff, Nat.reduceLeDiff, Int.reduceLE, Int.reduceLT, Int.reduceAbs, Int.reduceMul, Int.reduceAdd, Int.reduceSub, Int.reduceNeg, Int.reduceDiv, Int.reduceMod, ↓fEq_int, ↓fEq_str, ↓fEq_bl, ↓fMax2, ↓fMin2, rowD, natsD_len, Nat.reducePow, Nat.reduceLT, Int.reduceToNat, Int.reducePow, and_self, Int.zero_add, List.getD_cons_zero, List.getD_cons_succ, ne_shfr, ne_owfr, ne_bofr, ne_lnfr, Int.toNat_natCast, Nat.one_mul, Nat.reduceBEq, reduceIte, ↓reduceIte, ↓wChain_eq, ↓d_fIsi, ↓d_fRevL, ↓d_fRgL, ↓d_fRgT, tyD, isiB, String.reduceBEq, Bool.or_true, Bool.true_or, Bool.or_false, Bool.false_or, Bool.and_true, Bool.true_and, Bool.and_false, Bool.false_and, ↓fEq_row, ↓fEq_nats, ↓fEq_nats0, rng_nats, ↓fSum_row, ↓fSum_nats])
theorem holdF_mem : ∀ {xs : List Nat} {k i : Nat}, i ∈ holdF k xs → k ≤ i ∧ ∃ a, xs[i - k]? = some a ∧ 0 < a
  | [], _, _, h => by cases h
  | x :: xs, k, i, h => by
    unfold holdF at h
    have rest : i ∈ holdF (k + 1) xs → k ≤ i ∧ ∃ a, (x :: xs)[i - k]? = some a ∧ 0 < a := fun h => by
      obtain ⟨h1, a, h2, h3⟩ := holdF_mem h
      refine ⟨by omega, a, ?_, h3⟩
      rw [show i - k = (i - (k + 1)) + 1 by omega]
      exact h2
    split at h
    · rename_i hx
      rcases List.mem_cons.mp h with rfl | h
      · exact ⟨Nat.le_refl _, x, by simp, hx⟩
      · exact rest h
    · exact rest h
theorem hold_mem {xs : List Nat} {i : Nat} (h : i ∈ hold xs) : i < xs.length ∧ 0 < xs.getD i 0 := by
  obtain ⟨_, a, h1, h2⟩ := holdF_mem h
  rw [Nat.sub_zero] at h1
  have hl := (List.getElem?_eq_some_iff.mp h1).1
  refine ⟨hl, ?_⟩
  rw [List.getD_eq_getElem?_getD, h1]; exact h2
theorem hn_of_sum {xs : List Nat} (h : 0 < xs.sum) : 0 < hn xs := by
  unfold hn
  refine Nat.pos_of_ne_zero fun h0 => ?_
  have h1 : xs.filter (fun x => decide (0 < x)) = [] := List.length_eq_zero_iff.mp h0
  have h2 : ∀ x ∈ xs, x = 0 := fun x hx => by
    have := List.filter_eq_nil_iff.mp h1 x hx
    simp at this; omega
  have : ∀ ys : List Nat, (∀ x ∈ ys, x = 0) → ys.sum = 0 := by
    intro ys
    induction ys with
    | nil => intro _; rfl
    | cons y ys ih => intro h; rw [List.sum_cons, ih fun z hz => h z (List.mem_cons_of_mem _ hz), h y List.mem_cons_self]
  have := this xs h2
  omega
theorem gcd_of_sum {xs : List Nat} (h : 0 < xs.sum) : 0 < gcdL xs := by
  have h1 := hn_of_sum h
  unfold hn at h1
  obtain ⟨x, hx⟩ := List.exists_mem_of_length_pos h1
  rw [List.mem_filter] at hx
  exact gcdL_pos hx.1 (by simpa using hx.2)
theorem sum_of_pos {xs : List Nat} (h : ∃ x ∈ xs, 0 < x) : 0 < xs.sum := by
  obtain ⟨x, hx, h0⟩ := h
  have := mem_le_sum hx
  omega
theorem le_sum_getD {xs : List Nat} {i : Nat} (h : i < xs.length) : xs.getD i 0 ≤ xs.sum := mem_le_sum (List.mem_of_getElem? (getD_get h))
theorem plDs_rows : ∀ rs : List (List Nat), plDs (rowsD rs) = true
  | [] => by unfold rowsD plDs; rfl
  | r :: rs => by
    show plDs (rowD r :: rowsD rs) = true
    unfold plDs
    rw [plDs_rows rs]
    unfold rowD plD
    rw [plDs_nats]; rfl
theorem depDs_rows : ∀ rs : List (List Nat), depDs (rowsD rs) ≤ 1
  | [] => by unfold rowsD depDs; decide
  | r :: rs => by
    show depDs (rowD r :: rowsD rs) ≤ 1
    unfold depDs
    have := depDs_rows rs
    unfold rowD depD
    rw [depDs_nats]; omega
theorem fEq_rows0 {neg : Bool} {m n : Mo} {rs : List (List Nat)} {Q : R → Prop} : fEq neg (m, .lst (rowsD rs)) (n, .lst []) Q = Q (.sh, .bl (neg ^^ decide (rs = []))) := by
  rw [fEq_pl (by unfold plD; exact plDs_rows rs) (by unfold plD plDs; rfl) (by unfold depD; have := depDs_rows rs; omega) (by unfold depD depDs; decide)]
  cases rs with
  | nil => unfold eqD rowsD; simp [eqDs]
  | cons r rs => unfold eqD rowsD; simp [eqDs]
abbrev sp_k15_changed : FSpec := FS (α := D × List Nat × Nat) 2 [true] (fun a => [(.bo, a.1), (.sh, rowD a.2.1)]) (fun a => BoxOk a.2.2 a.1 ∧ 0 < a.2.1.sum ∧ a.2.1.length ≤ 50 ∧ a.2.1.sum < 2 ^ 150 ∧ a.2.2 < 2 ^ 180)
  (fun a r o => ∃ ys d', r = (.sh, rowD ys) ∧ o = [d'] ∧ BoxOk (a.2.2 + 20) d' ∧ 0 < ys.sum ∧ ys.length ≤ a.2.1.length + 1 ∧ ys.sum ≤ 2 * a.2.1.sum + 1) noExc
def b1_k15_changed (kl : Kl) : WS :=
(sSeq (sAsg (wCall sp_k15_next (aCons (oTmp (wN fTupOf (aCons (oLoc 8) aNil))) aNil)) (gN 11))
(sAsg (wIf (wTB (w2 (fEq true) (oLoc 11) (oTmp (wN fLst aNil)))) (wN fListOf (aCons (oTmp (wCall sp_l_of (aCons (oLoc 0) (aCons (oLoc 11) aNil)))) aNil)) (wVar 8)) (gN 8)))
def w_k15_changed (kl : Kl) : WS :=
(sSeq (sPar [4, 5] (aCons (oTmp (wCall sp_l_take (aCons (oLoc 0) (aCons (oTmp (wC (.int 8))) aNil)))) (aCons (oTmp (wComp fEnum (aCons (oLoc 1) aNil) (gTp 2 (gsCons (gN 2) (gsCons (gN 3) gsNil))) (wTB (w2 fGt (oLoc 3) (oTmp (wC (.int 0))))) (wVar 2) [2, 3])) aNil)))
(sSeq (sPar [6, 7] (aCons (oTmp (wCall sp_l_of (aCons (oLoc 0) (aCons (oLoc 5) aNil)))) (aCons (oTmp (wCall sp_l_take (aCons (oLoc 0) (aCons (oTmp (wN (fLenK kl) (aCons (oLoc 1) aNil))) aNil)))) aNil)))
(sSeq (sAsg (wN fListOf (aCons (oLoc 1) aNil)) (gN 8))
(sSeq (sAsg (w2 fAdd (oTmp (wC (.int 1))) (oTmp (wCall sp_l_take (aCons (oLoc 0) (aCons (oTmp (w2 (fIxK kl) (oLoc 8) (oLoc 6))) aNil))))) (gN 9))
(sSeq (sIf (wTB (w2 fLt (oLoc 4) (oTmp (wC (.int 3)))))
(sSeq (sAsg (w2 fSub (oTmp (w2 (fIxK kl) (oLoc 8) (oLoc 6))) (oTmp (w2 fMul (oLoc 9) (oTmp (wN fIntOf (aCons (oTmp (w2 (fEq true) (oLoc 6) (oLoc 7))) aNil)))))) (gIx 8 (oLoc 6)))
(sAsg (w2 fAdd (oTmp (w2 (fIxK kl) (oLoc 8) (oLoc 7))) (oLoc 9)) (gIx 8 (oLoc 7))))
(sIf (wTB (w2 (fEq false) (oLoc 4) (oTmp (wC (.int 3)))))
(sAsg (w1 fRevL (oLoc 8)) (gN 8))
(sIf (wTB (w2 (fEq false) (oLoc 4) (oTmp (wC (.int 4)))))
(sAsg (w2 fAdd (oTmp (w2 (fIxK kl) (oLoc 8) (oLoc 6))) (oTmp (wC (.int 1)))) (gIx 8 (oLoc 6)))
(sIf (wTB (w2 (fEq false) (oLoc 4) (oTmp (wC (.int 5)))))
(sAsg (w2 fAdd (oLoc 8) (oTmp (wN fLst (aCons (oTmp (wC (.int 0))) aNil)))) (gN 8))
sNext))))
(sSeq (sFor fRange1 (aCons (oTmp (w2 fMul (oTmp (wCall sp_l_take (aCons (oLoc 0) (aCons (oTmp (wC (.int 4))) aNil)))) (oTmp (wN fIntOf (aCons (oTmp (w2 fGt (oLoc 4) (oTmp (wC (.int 5))))) aNil))))) aNil) (gN 10)
(b1_k15_changed kl))
(sRet (wN fTupOf (aCons (oLoc 8) aNil)))))))))
theorem vc_k15_changed (kl : Kl) : VC sp_k15_changed 12 (w_k15_changed kl) := FS.vc fun ⟨d, xs, c⟩ hp Q E hQ => by
  obtain ⟨hb, hs, hl, hsb, hc⟩ := hp
  simp only at hb hs hl hsb hc hQ
  have hz := sizeLine_big
  unfold w_k15_changed
  walk_at "wk"
  refine seqP fun K hK => ?_
  walk_at "wp"
  refine call_take hb (by omega) (by omega) fun way d1 hw hb1 => ?_
  walk_at "wp"
  refine compP enF rfl (by rw [enumD_len, natsD_len]; omega) (fun d acc N hd ha hN => ?_) ?_
  · obtain ⟨i, a, rfl⟩ := enumD_nats xs 0 d hd
    walk_at "wp"
    refine brD (fun h => ?_) (fun h => ?_)
    · have e : enF (.tup [.int (i : Int), .int (a : Int)]) = some (.int (i : Int)) := by simp only [enF]; rw [if_pos h]
      rw [e] at hN
      walk_at "wp"
      exact ⟨ha, hN⟩
    · have e : enF (.tup [.int (i : Int), .int (a : Int)]) = none := by simp only [enF]; rw [if_neg h]
      rw [e] at hN
      walk_at "wp"
      rw [Option.toList, List.append_nil] at hN
      exact hN
  have en : (enumD 0 (natsD xs)).filterMap enF = natsD (hold xs) := enF_all xs 0
  simp only [↓d_sSeq, ↓d_sAsg, ↓d_sExpr, ↓d_sRet, ↓d_sRetN, ↓d_sNext, ↓d_sAug, ↓d_sPar, ↓d_sBreak, ↓d_sCont, ↓d_wTB, ↓d_wTV, ↓d_wNotT, ↓d_wNotE, ↓d_w1, ↓d_w2, ↓d_wN, ↓d_wC, ↓d_wVar, ↓d_wMove, ↓d_wMut, ↓d_wSl, ↓d_oTmp, ↓d_oLoc, ↓d_aNil, ↓d_aCons, ↓d_aRev, res, ress, callA, takeA, nextR, backA, putB, ↓d_gN, ↓d_gTp, ↓d_gsCons, ↓d_gsNil, ↓d_gIx, canSet_eq, free_un, free_sh1, free_ow1, free_fr1, okR, okM, ↓d_pNone, ↓d_pInt, ↓d_fAdd, ↓d_fSub, ↓d_fMul, ↓d_fDiv, ↓d_fMod, ↓d_fPow, ↓d_fShr, ↓d_fShl, ↓d_fAnd, ↓d_fNeg, ↓d_fCmp, ↓d_fLt, ↓d_fLe, ↓d_fGt, ↓d_fGe, ↓d_fIs, ↓d_fIx, ↓d_fIxK, ↓d_fLen, ↓d_fLenK, ↓d_fAbs, ↓fIntOf_bl, ↓fIntOf_int, b2i_true, b2i_false, ↓d_fAddI, ↓d_fMulI, ↓d_fLst, ↓d_fTup, shs, fSeq, fZip, fRev, ↓d_mAppend, ↓d_mExtend, ↓d_mPop0, ↓d_mPopAt, D.isLst, locs, lend, lendI, lent, home, homeI, back1, wipeR, unwipe, ↓d_homeD, wYes, noX, Option.toList, List.getElem?_cons_zero, List.getElem?_cons_succ, List.set_cons_zero, List.set_cons_succ, List.length_cons, List.length_nil, List.headD_cons, List.headD_nil, List.tail_cons, List.tail_nil, List.reverse_cons, List.reverse_nil, List.nil_append, List.cons_append, Nat.zero_add, Bool.false_eq_true, if_true, if_false, ite_true, ite_false, List.contains_cons, List.contains_nil, initR, edOf, outsOf, slotR, List.map_cons, List.map_nil, List.replicate_succ, List.replicate_zero, List.append_nil, Nat.reduceAdd, Nat.reduceSub, Nat.reduceMul, FS_pm, FS_ar, Mo.own, sI, sD, nv, iv, ↓d_fListOf, ↓d_fTupOf, ↓d_parW1, ↓d_parW2, ↓d_sRaise, ↓sIf_eq, ↓wIf_eq, ↓wAndT_eq, ↓wOrT_eq, ↓wAndE_eq, ↓wOrE_eq, ↓sFor_eq, ↓wComp_eq, ↓wCall_eq, ↓sWhile_eq, ↓turnW_eq, brP_true, brP_false, true_and, and_true, pair_eta, atI_0, atI_1, atI_2, atI_3, natsD_cons, natsD_nil, decide_true, decide_false, Bool.not_true, Bool.not_false, Bool.true_xor, Bool.false_xor, Bool.xor_self, few_eq, few_lt, PowOk_iff, Nat.reduceLeDiff, Int.reduceLE, Int.reduceLT, Int.reduceAbs, Int.reduceMul, Int.reduceAdd, Int.reduceSub, Int.reduceNeg, Int.reduceDiv, Int.reduceMod, ↓fEq_int, ↓fEq_str, ↓fEq_bl, ↓fMax2, ↓fMin2, rowD, natsD_len, Nat.reducePow, Nat.reduceLT, Int.reduceToNat, Int.reducePow, and_self, Int.zero_add, List.getD_cons_zero, List.getD_cons_succ, ne_shfr, ne_owfr, ne_bofr, ne_lnfr, Int.toNat_natCast, Nat.one_mul, Nat.reduceBEq, reduceIte, ↓reduceIte, ↓wChain_eq, ↓d_fIsi, ↓d_fRevL, ↓d_fRgL, ↓d_fRgT, tyD, isiB, String.reduceBEq, Bool.or_true, Bool.true_or, Bool.or_false, Bool.false_or, Bool.and_true, Bool.true_and, Bool.and_false, Bool.false_and, ↓fEq_row, ↓fEq_nats, ↓fEq_nats0, rng_nats, ↓fSum_row, ↓fSum_nats, en]
  refine hK _ ?_
  clear hK K
  walk_at "wk"
  refine seqP fun K hK => ?_
  walk_at "wp"
  have hhl := hold_len xs
  have hhn := hn_of_sum hs
  have hhl2 : hn xs ≤ xs.length := List.length_filter_le _ _
  refine call_of .ln (fun x => ∃ n, n ∈ hold xs ∧ x = .int (n : Nat)) (.inr (.inl rfl)) hb1 (by rw [natsD_len]; omega) (by omega) (fun x hx => mem_nats hx) ?_
  rintro _ d2 ⟨i, hi, rfl⟩ hb2
  obtain ⟨hil, hi0⟩ := hold_mem hi
  walk_at "wp"
  refine call_take hb2 (by omega) (by omega) fun j d3 hj hb3 => ?_
  have hjl : j < xs.length := by omega
  walk_at "wp"
  refine hK _ ?_
  clear hK K
  have g1 := atI_nats (getD_get hil)
  have g2 := atI_nats (getD_get hjl)
  have s1 := le_sum_getD hil
  have s2 := le_sum_getD hjl
  walk_at "wk"
  refine seqP fun K hK => ?_
  walk_at "wp"
  refine hK _ ?_
  clear hK K
  walk_at "wk"
  refine seqP fun K hK => ?_
  simp only [↓d_sSeq, ↓d_sAsg, ↓d_sExpr, ↓d_sRet, ↓d_sRetN, ↓d_sNext, ↓d_sAug, ↓d_sPar, ↓d_sBreak, ↓d_sCont, ↓d_wTB, ↓d_wTV, ↓d_wNotT, ↓d_wNotE, ↓d_w1, ↓d_w2, ↓d_wN, ↓d_wC, ↓d_wVar, ↓d_wMove, ↓d_wMut, ↓d_wSl, ↓d_oTmp, ↓d_oLoc, ↓d_aNil, ↓d_aCons, ↓d_aRev, res, ress, callA, takeA, nextR, backA, putB, ↓d_gN, ↓d_gTp, ↓d_gsCons, ↓d_gsNil, ↓d_gIx, canSet_eq, free_un, free_sh1, free_ow1, free_fr1, okR, okM, ↓d_pNone, ↓d_pInt, ↓d_fAdd, ↓d_fSub, ↓d_fMul, ↓d_fDiv, ↓d_fMod, ↓d_fPow, ↓d_fShr, ↓d_fShl, ↓d_fAnd, ↓d_fNeg, ↓d_fCmp, ↓d_fLt, ↓d_fLe, ↓d_fGt, ↓d_fGe, ↓d_fIs, ↓d_fIx, ↓d_fIxK, ↓d_fLen, ↓d_fLenK, ↓d_fAbs, ↓fIntOf_bl, ↓fIntOf_int, b2i_true, b2i_false, ↓d_fAddI, ↓d_fMulI, ↓d_fLst, ↓d_fTup, shs, fSeq, fZip, fRev, ↓d_mAppend, ↓d_mExtend, ↓d_mPop0, ↓d_mPopAt, D.isLst, locs, lend, lendI, lent, home, homeI, back1, wipeR, unwipe, ↓d_homeD, wYes, noX, Option.toList, List.getElem?_cons_zero, List.getElem?_cons_succ, List.set_cons_zero, List.set_cons_succ, List.length_cons, List.length_nil, List.headD_cons, List.headD_nil, List.tail_cons, List.tail_nil, List.reverse_cons, List.reverse_nil, List.nil_append, List.cons_append, Nat.zero_add, Bool.false_eq_true, if_true, if_false, ite_true, ite_false, List.contains_cons, List.contains_nil, initR, edOf, outsOf, slotR, List.map_cons, List.map_nil, List.replicate_succ, List.replicate_zero, List.append_nil, Nat.reduceAdd, Nat.reduceSub, Nat.reduceMul, FS_pm, FS_ar, Mo.own, sI, sD, nv, iv, ↓d_fListOf, ↓d_fTupOf, ↓d_parW1, ↓d_parW2, ↓d_sRaise, ↓sIf_eq, ↓wIf_eq, ↓wAndT_eq, ↓wOrT_eq, ↓wAndE_eq, ↓wOrE_eq, ↓sFor_eq, ↓wComp_eq, ↓wCall_eq, ↓sWhile_eq, ↓turnW_eq, brP_true, brP_false, true_and, and_true, pair_eta, atI_0, atI_1, atI_2, atI_3, natsD_cons, natsD_nil, decide_true, decide_false, Bool.not_true, Bool.not_false, Bool.true_xor, Bool.false_xor, Bool.xor_self, few_eq, few_lt, PowOk_iff, Nat.reduceLeDiff, Int.reduceLE, Int.reduceLT, Int.reduceAbs, Int.reduceMul, Int.reduceAdd, Int.reduceSub, Int.reduceNeg, Int.reduceDiv, Int.reduceMod, ↓fEq_int, ↓fEq_str, ↓fEq_bl, ↓fMax2, ↓fMin2, rowD, natsD_len, Nat.reducePow, Nat.reduceLT, Int.reduceToNat, Int.reducePow, and_self, Int.zero_add, List.getD_cons_zero, List.getD_cons_succ, ne_shfr, ne_owfr, ne_bofr, ne_lnfr, Int.toNat_natCast, Nat.one_mul, Nat.reduceBEq, reduceIte, ↓reduceIte, ↓wChain_eq, ↓d_fIsi, ↓d_fRevL, ↓d_fRgL, ↓d_fRgT, tyD, isiB, String.reduceBEq, Bool.or_true, Bool.true_or, Bool.or_false, Bool.false_or, Bool.and_true, Bool.true_and, Bool.and_false, Bool.false_and, ↓fEq_row, ↓fEq_nats, ↓fEq_nats0, rng_nats, ↓fSum_row, ↓fSum_nats, g1]
  refine call_take hb3 (by omega) (by omega) fun p d4 hp hb4 => ?_
  walk_at "wp"
  refine hK _ ?_
  clear hK K
  -- behind the change
  walk_at "wk"
  refine seqP fun K hK => ?_
  have after : ∀ ys : List Nat, 0 < ys.sum → ys.length ≤ xs.length + 1 → ys.sum ≤ 2 * xs.sum + 1 → K [.dat .bo d4, sD (rowD xs), .un, .un, sI way, .dat .ow (.lst (natsD (hold xs))), sI i, sI j, .dat .ow (.lst (natsD ys)), sI (1 + (p : Int)), .un, .un] := by
    intro ys y0 yl ys2
    refine hK _ ?_
    clear hK K
    walk_at "wk"
    refine seqP fun K hK => ?_
    walk_at "wp"
    refine call_take hb4 (by omega) (by omega) fun q d5 hq hb5 => ?_
    have b5 := b2i_bd (decide (5 < (way : Int)))
    have m5 := mul_bd (a := (q : Int)) (b := b2i (decide (5 < (way : Int)))) (A := 3) (B := 1) (by omega)
    walk_at "wp"
    refine ⟨mulOkI (by omega), ?_⟩
    refine forP (fun t ρ => ∃ d' m zs t10 t11, ρ = [.dat .bo d', sD (rowD xs), .un, .un, sI way, .dat .ow (.lst (natsD (hold xs))), sI i, sI j, .dat m (.lst (natsD zs)), sI (1 + (p : Int)), t10, t11] ∧ (m = .ow ∨ m = .sh) ∧ free t10 ∧ free t11 ∧ BoxOk (c + 5 + t) d' ∧ zs.sum = ys.sum ∧ zs.length = ys.length) (range1 (by omega)) ⟨d5, .ow, ys, .un, .un, rfl, .inl rfl, trivial, trivial, hb5, rfl, rfl⟩ ?_ ?_
    · rintro t dt _ N ht ⟨d', m, zs, t10, t11, rfl, hm, f10, f11, hb', zs1, zs2⟩ hN
      obtain ⟨rfl, htn⟩ := rng_get ht
      have zb : ∀ z ∈ zs, z < 2 ^ 200 := fun z hz => by have := mem_le_sum hz; omega
      unfold b1_k15_changed
      have hnl : (nextL zs).length ≤ 10000 := by
        have := flat_len2 zs zs.length
        have h2 : zs.length * zs.length ≤ 100 * 100 := Nat.mul_le_mul (by omega) (by omega)
        unfold nextL; omega
      rcases hm with rfl | rfl
      · walk_at "wp"
        refine ⟨f10, call0 zs rfl rfl ⟨by omega, zb⟩ ?_⟩
        rintro _ _ ⟨rfl, rfl⟩
        simp only [↓d_sSeq, ↓d_sAsg, ↓d_sExpr, ↓d_sRet, ↓d_sRetN, ↓d_sNext, ↓d_sAug, ↓d_sPar, ↓d_sBreak, ↓d_sCont, ↓d_wTB, ↓d_wTV, ↓d_wNotT, ↓d_wNotE, ↓d_w1, ↓d_w2, ↓d_wN, ↓d_wC, ↓d_wVar, ↓d_wMove, ↓d_wMut, ↓d_wSl, ↓d_oTmp, ↓d_oLoc, ↓d_aNil, ↓d_aCons, ↓d_aRev, res, ress, callA, takeA, nextR, backA, putB, ↓d_gN, ↓d_gTp, ↓d_gsCons, ↓d_gsNil, ↓d_gIx, canSet_eq, free_un, free_sh1, free_ow1, free_fr1, okR, okM, ↓d_pNone, ↓d_pInt, ↓d_fAdd, ↓d_fSub, ↓d_fMul, ↓d_fDiv, ↓d_fMod, ↓d_fPow, ↓d_fShr, ↓d_fShl, ↓d_fAnd, ↓d_fNeg, ↓d_fCmp, ↓d_fLt, ↓d_fLe, ↓d_fGt, ↓d_fGe, ↓d_fIs, ↓d_fIx, ↓d_fIxK, ↓d_fLen, ↓d_fLenK, ↓d_fAbs, ↓fIntOf_bl, ↓fIntOf_int, b2i_true, b2i_false, ↓d_fAddI, ↓d_fMulI, ↓d_fLst, ↓d_fTup, shs, fSeq, fZip, fRev, ↓d_mAppend, ↓d_mExtend, ↓d_mPop0, ↓d_mPopAt, D.isLst, locs, lend, lendI, lent, home, homeI, back1, wipeR, unwipe, ↓d_homeD, wYes, noX, Option.toList, List.getElem?_cons_zero, List.getElem?_cons_succ, List.set_cons_zero, List.set_cons_succ, List.length_cons, List.length_nil, List.headD_cons, List.headD_nil, List.tail_cons, List.tail_nil, List.reverse_cons, List.reverse_nil, List.nil_append, List.cons_append, Nat.zero_add, Bool.false_eq_true, if_true, if_false, ite_true, ite_false, List.contains_cons, List.contains_nil, initR, edOf, outsOf, slotR, List.map_cons, List.map_nil, List.replicate_succ, List.replicate_zero, List.append_nil, Nat.reduceAdd, Nat.reduceSub, Nat.reduceMul, FS_pm, FS_ar, Mo.own, sI, sD, nv, iv, ↓d_fListOf, ↓d_fTupOf, ↓d_parW1, ↓d_parW2, ↓d_sRaise, ↓sIf_eq, ↓wIf_eq, ↓wAndT_eq, ↓wOrT_eq, ↓wAndE_eq, ↓wOrE_eq, ↓sFor_eq, ↓wComp_eq, ↓wCall_eq, ↓sWhile_eq, ↓turnW_eq, brP_true, brP_false, true_and, and_true, pair_eta, atI_0, atI_1, atI_2, atI_3, natsD_cons, natsD_nil, decide_true, decide_false, Bool.not_true, Bool.not_false, Bool.true_xor, Bool.false_xor, Bool.xor_self, few_eq, few_lt, PowOk_iff, Nat.reduceLeDiff, Int.reduceLE, Int.reduceLT, Int.reduceAbs, Int.reduceMul, Int.reduceAdd, Int.reduceSub, Int.reduceNeg, Int.reduceDiv, Int.reduceMod, ↓fEq_int, ↓fEq_str, ↓fEq_bl, ↓fMax2, ↓fMin2, rowD, natsD_len, Nat.reducePow, Nat.reduceLT, Int.reduceToNat, Int.reducePow, and_self, Int.zero_add, List.getD_cons_zero, List.getD_cons_succ, ne_shfr, ne_owfr, ne_bofr, ne_lnfr, Int.toNat_natCast, Nat.one_mul, Nat.reduceBEq, reduceIte, ↓reduceIte, ↓wChain_eq, ↓d_fIsi, ↓d_fRevL, ↓d_fRgL, ↓d_fRgT, tyD, isiB, String.reduceBEq, Bool.or_true, Bool.true_or, Bool.or_false, Bool.false_or, Bool.and_true, Bool.true_and, Bool.and_false, Bool.false_and, ↓fEq_row, ↓fEq_nats, ↓fEq_nats0, rng_nats, ↓fSum_row, ↓fSum_nats, fEq_rows0]
        refine ⟨f11, brN (fun h => ?_) (fun h => ?_)⟩
        · walk_at "wp"
          have : 0 < (nextL zs).length := List.length_pos_iff.mpr h
          refine call_of .ln (fun x => ∃ n, n ∈ nextL zs ∧ x = rowD n) (.inr (.inl rfl)) hb' (by rw [rowsD_len]; omega) (by omega) (fun x hx => by obtain ⟨n, hn, rfl⟩ := List.mem_map.mp hx; exact ⟨n, hn, rfl⟩) ?_
          rintro _ d6 ⟨us, hus, rfl⟩ hb6
          obtain ⟨u, v, hu, hv, hm, rfl⟩ := nextL_mem hus
          walk_at "wp"
          exact hN _ ⟨d6, .ow, _, _, _, rfl, .inl rfl, trivial, trivial, hb6, by rw [deedL_sum hu hv hm, zs1], by rw [deedL_len, zs2]⟩
        · walk_at "wp"
          exact hN _ ⟨d', .sh, zs, _, _, rfl, .inr rfl, trivial, trivial, hb'.mono (by omega), zs1, zs2⟩
      · walk_at "wp"
        refine ⟨f10, call0 zs rfl rfl ⟨by omega, zb⟩ ?_⟩
        rintro _ _ ⟨rfl, rfl⟩
        simp only [↓d_sSeq, ↓d_sAsg, ↓d_sExpr, ↓d_sRet, ↓d_sRetN, ↓d_sNext, ↓d_sAug, ↓d_sPar, ↓d_sBreak, ↓d_sCont, ↓d_wTB, ↓d_wTV, ↓d_wNotT, ↓d_wNotE, ↓d_w1, ↓d_w2, ↓d_wN, ↓d_wC, ↓d_wVar, ↓d_wMove, ↓d_wMut, ↓d_wSl, ↓d_oTmp, ↓d_oLoc, ↓d_aNil, ↓d_aCons, ↓d_aRev, res, ress, callA, takeA, nextR, backA, putB, ↓d_gN, ↓d_gTp, ↓d_gsCons, ↓d_gsNil, ↓d_gIx, canSet_eq, free_un, free_sh1, free_ow1, free_fr1, okR, okM, ↓d_pNone, ↓d_pInt, ↓d_fAdd, ↓d_fSub, ↓d_fMul, ↓d_fDiv, ↓d_fMod, ↓d_fPow, ↓d_fShr, ↓d_fShl, ↓d_fAnd, ↓d_fNeg, ↓d_fCmp, ↓d_fLt, ↓d_fLe, ↓d_fGt, ↓d_fGe, ↓d_fIs, ↓d_fIx, ↓d_fIxK, ↓d_fLen, ↓d_fLenK, ↓d_fAbs, ↓fIntOf_bl, ↓fIntOf_int, b2i_true, b2i_false, ↓d_fAddI, ↓d_fMulI, ↓d_fLst, ↓d_fTup, shs, fSeq, fZip, fRev, ↓d_mAppend, ↓d_mExtend, ↓d_mPop0, ↓d_mPopAt, D.isLst, locs, lend, lendI, lent, home, homeI, back1, wipeR, unwipe, ↓d_homeD, wYes, noX, Option.toList, List.getElem?_cons_zero, List.getElem?_cons_succ, List.set_cons_zero, List.set_cons_succ, List.length_cons, List.length_nil, List.headD_cons, List.headD_nil, List.tail_cons, List.tail_nil, List.reverse_cons, List.reverse_nil, List.nil_append, List.cons_append, Nat.zero_add, Bool.false_eq_true, if_true, if_false, ite_true, ite_false, List.contains_cons, List.contains_nil, initR, edOf, outsOf, slotR, List.map_cons, List.map_nil, List.replicate_succ, List.replicate_zero, List.append_nil, Nat.reduceAdd, Nat.reduceSub, Nat.reduceMul, FS_pm, FS_ar, Mo.own, sI, sD, nv, iv, ↓d_fListOf, ↓d_fTupOf, ↓d_parW1, ↓d_parW2, ↓d_sRaise, ↓sIf_eq, ↓wIf_eq, ↓wAndT_eq, ↓wOrT_eq, ↓wAndE_eq, ↓wOrE_eq, ↓sFor_eq, ↓wComp_eq, ↓wCall_eq, ↓sWhile_eq, ↓turnW_eq, brP_true, brP_false, true_and, and_true, pair_eta, atI_0, atI_1, atI_2, atI_3, natsD_cons, natsD_nil, decide_true, decide_false, Bool.not_true, Bool.not_false, Bool.true_xor, Bool.false_xor, Bool.xor_self, few_eq, few_lt, PowOk_iff, Nat.reduceLeDiff, Int.reduceLE, Int.reduceLT, Int.reduceAbs, Int.reduceMul, Int.reduceAdd, Int.reduceSub, Int.reduceNeg, Int.reduceDiv, Int.reduceMod, ↓fEq_int, ↓fEq_str, ↓fEq_bl, ↓fMax2, ↓fMin2, rowD, natsD_len, Nat.reducePow, Nat.reduceLT, Int.reduceToNat, Int.reducePow, and_self, Int.zero_add, List.getD_cons_zero, List.getD_cons_succ, ne_shfr, ne_owfr, ne_bofr, ne_lnfr, Int.toNat_natCast, Nat.one_mul, Nat.reduceBEq, reduceIte, ↓reduceIte, ↓wChain_eq, ↓d_fIsi, ↓d_fRevL, ↓d_fRgL, ↓d_fRgT, tyD, isiB, String.reduceBEq, Bool.or_true, Bool.true_or, Bool.or_false, Bool.false_or, Bool.and_true, Bool.true_and, Bool.and_false, Bool.false_and, ↓fEq_row, ↓fEq_nats, ↓fEq_nats0, rng_nats, ↓fSum_row, ↓fSum_nats, fEq_rows0]
        refine ⟨f11, brN (fun h => ?_) (fun h => ?_)⟩
        · walk_at "wp"
          have : 0 < (nextL zs).length := List.length_pos_iff.mpr h
          refine call_of .ln (fun x => ∃ n, n ∈ nextL zs ∧ x = rowD n) (.inr (.inl rfl)) hb' (by rw [rowsD_len]; omega) (by omega) (fun x hx => by obtain ⟨n, hn, rfl⟩ := List.mem_map.mp hx; exact ⟨n, hn, rfl⟩) ?_
          rintro _ d6 ⟨us, hus, rfl⟩ hb6
          obtain ⟨u, v, hu, hv, hm, rfl⟩ := nextL_mem hus
          walk_at "wp"
          exact hN _ ⟨d6, .ow, _, _, _, rfl, .inl rfl, trivial, trivial, hb6, by rw [deedL_sum hu hv hm, zs1], by rw [deedL_len, zs2]⟩
        · walk_at "wp"
          exact hN _ ⟨d', .sh, zs, _, _, rfl, .inr rfl, trivial, trivial, hb'.mono (by omega), zs1, zs2⟩
    · rintro ρ ⟨d', m, zs, t10, t11, rfl, hm, f10, f11, hb', zs1, zs2⟩
      rw [rng_len] at hb'
      refine hK _ ?_
      clear hK K
      have e : Q (.sh, rowD zs) [d'] := hQ _ _ ⟨zs, d', rfl, rfl, hb'.mono (by omega), by omega, by omega, by omega⟩
      rcases hm with rfl | rfl
      · walk_at "wp"
        exact e
      · walk_at "wp"
        exact e
  clear hK
  have e1 : ((1 : Int) + (p : Int)) = ((1 + p : Nat) : Int) := by omega
  have sm : ∀ {zs : List Nat} {k v a : Nat}, zs[k]? = some a → (zs.set k v).sum + a = zs.sum + v := sumSet
  walk_at "wp"
  refine brD (fun h => ?_) (fun h => ?_)
  · by_cases hij : i = j
    · subst hij
      have e2 : decide ((i : Int) = (i : Int)) = true := by simp
      have e3 : ((xs.getD i 0 : Nat) : Int) - (1 + (p : Int)) * 0 = ((xs.getD i 0 : Nat) : Int) := by omega
      have e4 : (natsD xs).set i (.int ((xs.getD i 0 : Nat) : Int)) = natsD xs := by
        rw [natsD_set]
        congr 1
        exact List.ext_getElem? fun k => by
          by_cases hk : i = k
          · subst hk; rw [List.getElem?_set_self hil, getD_get hil]
          · rw [List.getElem?_set_ne hk]
      have e5 : ((xs.getD i 0 : Nat) : Int) + (1 + (p : Int)) = ((xs.getD i 0 + (1 + p) : Nat) : Int) := by omega
      simp only [↓d_sSeq, ↓d_sAsg, ↓d_sExpr, ↓d_sRet, ↓d_sRetN, ↓d_sNext, ↓d_sAug, ↓d_sPar, ↓d_sBreak, ↓d_sCont, ↓d_wTB, ↓d_wTV, ↓d_wNotT, ↓d_wNotE, ↓d_w1, ↓d_w2, ↓d_wN, ↓d_wC, ↓d_wVar, ↓d_wMove, ↓d_wMut, ↓d_wSl, ↓d_oTmp, ↓d_oLoc, ↓d_aNil, ↓d_aCons, ↓d_aRev, res, ress, callA, takeA, nextR, backA, putB, ↓d_gN, ↓d_gTp, ↓d_gsCons, ↓d_gsNil, ↓d_gIx, canSet_eq, free_un, free_sh1, free_ow1, free_fr1, okR, okM, ↓d_pNone, ↓d_pInt, ↓d_fAdd, ↓d_fSub, ↓d_fMul, ↓d_fDiv, ↓d_fMod, ↓d_fPow, ↓d_fShr, ↓d_fShl, ↓d_fAnd, ↓d_fNeg, ↓d_fCmp, ↓d_fLt, ↓d_fLe, ↓d_fGt, ↓d_fGe, ↓d_fIs, ↓d_fIx, ↓d_fIxK, ↓d_fLen, ↓d_fLenK, ↓d_fAbs, ↓fIntOf_bl, ↓fIntOf_int, b2i_true, b2i_false, ↓d_fAddI, ↓d_fMulI, ↓d_fLst, ↓d_fTup, shs, fSeq, fZip, fRev, ↓d_mAppend, ↓d_mExtend, ↓d_mPop0, ↓d_mPopAt, D.isLst, locs, lend, lendI, lent, home, homeI, back1, wipeR, unwipe, ↓d_homeD, wYes, noX, Option.toList, List.getElem?_cons_zero, List.getElem?_cons_succ, List.set_cons_zero, List.set_cons_succ, List.length_cons, List.length_nil, List.headD_cons, List.headD_nil, List.tail_cons, List.tail_nil, List.reverse_cons, List.reverse_nil, List.nil_append, List.cons_append, Nat.zero_add, Bool.false_eq_true, if_true, if_false, ite_true, ite_false, List.contains_cons, List.contains_nil, initR, edOf, outsOf, slotR, List.map_cons, List.map_nil, List.replicate_succ, List.replicate_zero, List.append_nil, Nat.reduceAdd, Nat.reduceSub, Nat.reduceMul, FS_pm, FS_ar, Mo.own, sI, sD, nv, iv, ↓d_fListOf, ↓d_fTupOf, ↓d_parW1, ↓d_parW2, ↓d_sRaise, ↓sIf_eq, ↓wIf_eq, ↓wAndT_eq, ↓wOrT_eq, ↓wAndE_eq, ↓wOrE_eq, ↓sFor_eq, ↓wComp_eq, ↓wCall_eq, ↓sWhile_eq, ↓turnW_eq, brP_true, brP_false, true_and, and_true, pair_eta, atI_0, atI_1, atI_2, atI_3, natsD_cons, natsD_nil, decide_true, decide_false, Bool.not_true, Bool.not_false, Bool.true_xor, Bool.false_xor, Bool.xor_self, few_eq, few_lt, PowOk_iff, Nat.reduceLeDiff, Int.reduceLE, Int.reduceLT, Int.reduceAbs, Int.reduceMul, Int.reduceAdd, Int.reduceSub, Int.reduceNeg, Int.reduceDiv, Int.reduceMod, ↓fEq_int, ↓fEq_str, ↓fEq_bl, ↓fMax2, ↓fMin2, rowD, natsD_len, Nat.reducePow, Nat.reduceLT, Int.reduceToNat, Int.reducePow, and_self, Int.zero_add, List.getD_cons_zero, List.getD_cons_succ, ne_shfr, ne_owfr, ne_bofr, ne_lnfr, Int.toNat_natCast, Nat.one_mul, Nat.reduceBEq, reduceIte, ↓reduceIte, ↓wChain_eq, ↓d_fIsi, ↓d_fRevL, ↓d_fRgL, ↓d_fRgT, tyD, isiB, String.reduceBEq, Bool.or_true, Bool.true_or, Bool.or_false, Bool.false_or, Bool.and_true, Bool.true_and, Bool.and_false, Bool.false_and, ↓fEq_row, ↓fEq_nats, ↓fEq_nats0, rng_nats, ↓fSum_row, ↓fSum_nats, g1, e2, e3, ixN_nat hil, e4, e5, natsD_set]
      refine ⟨mulOkI (by omega), after _ ?_ ?_ ?_⟩
      · have := sm (v := xs.getD i 0 + (1 + p)) (getD_get hil); omega
      · simp
      · have := sm (v := xs.getD i 0 + (1 + p)) (getD_get hil); omega
    · have e2 : decide ((i : Int) = (j : Int)) = false := decide_eq_false (by omega)
      have e3 : ((xs.getD i 0 : Nat) : Int) - (1 + (p : Int)) * 1 = ((xs.getD i 0 - (1 + p) : Nat) : Int) := by omega
      have g3 : (xs.set i (xs.getD i 0 - (1 + p)))[j]? = some (xs.getD j 0) := by rw [List.getElem?_set_ne hij]; exact getD_get hjl
      have e5 : ((xs.getD j 0 : Nat) : Int) + (1 + (p : Int)) = ((xs.getD j 0 + (1 + p) : Nat) : Int) := by omega
      simp only [↓d_sSeq, ↓d_sAsg, ↓d_sExpr, ↓d_sRet, ↓d_sRetN, ↓d_sNext, ↓d_sAug, ↓d_sPar, ↓d_sBreak, ↓d_sCont, ↓d_wTB, ↓d_wTV, ↓d_wNotT, ↓d_wNotE, ↓d_w1, ↓d_w2, ↓d_wN, ↓d_wC, ↓d_wVar, ↓d_wMove, ↓d_wMut, ↓d_wSl, ↓d_oTmp, ↓d_oLoc, ↓d_aNil, ↓d_aCons, ↓d_aRev, res, ress, callA, takeA, nextR, backA, putB, ↓d_gN, ↓d_gTp, ↓d_gsCons, ↓d_gsNil, ↓d_gIx, canSet_eq, free_un, free_sh1, free_ow1, free_fr1, okR, okM, ↓d_pNone, ↓d_pInt, ↓d_fAdd, ↓d_fSub, ↓d_fMul, ↓d_fDiv, ↓d_fMod, ↓d_fPow, ↓d_fShr, ↓d_fShl, ↓d_fAnd, ↓d_fNeg, ↓d_fCmp, ↓d_fLt, ↓d_fLe, ↓d_fGt, ↓d_fGe, ↓d_fIs, ↓d_fIx, ↓d_fIxK, ↓d_fLen, ↓d_fLenK, ↓d_fAbs, ↓fIntOf_bl, ↓fIntOf_int, b2i_true, b2i_false, ↓d_fAddI, ↓d_fMulI, ↓d_fLst, ↓d_fTup, shs, fSeq, fZip, fRev, ↓d_mAppend, ↓d_mExtend, ↓d_mPop0, ↓d_mPopAt, D.isLst, locs, lend, lendI, lent, home, homeI, back1, wipeR, unwipe, ↓d_homeD, wYes, noX, Option.toList, List.getElem?_cons_zero, List.getElem?_cons_succ, List.set_cons_zero, List.set_cons_succ, List.length_cons, List.length_nil, List.headD_cons, List.headD_nil, List.tail_cons, List.tail_nil, List.reverse_cons, List.reverse_nil, List.nil_append, List.cons_append, Nat.zero_add, Bool.false_eq_true, if_true, if_false, ite_true, ite_false, List.contains_cons, List.contains_nil, initR, edOf, outsOf, slotR, List.map_cons, List.map_nil, List.replicate_succ, List.replicate_zero, List.append_nil, Nat.reduceAdd, Nat.reduceSub, Nat.reduceMul, FS_pm, FS_ar, Mo.own, sI, sD, nv, iv, ↓d_fListOf, ↓d_fTupOf, ↓d_parW1, ↓d_parW2, ↓d_sRaise, ↓sIf_eq, ↓wIf_eq, ↓wAndT_eq, ↓wOrT_eq, ↓wAndE_eq, ↓wOrE_eq, ↓sFor_eq, ↓wComp_eq, ↓wCall_eq, ↓sWhile_eq, ↓turnW_eq, brP_true, brP_false, true_and, and_true, pair_eta, atI_0, atI_1, atI_2, atI_3, natsD_cons, natsD_nil, decide_true, decide_false, Bool.not_true, Bool.not_false, Bool.true_xor, Bool.false_xor, Bool.xor_self, few_eq, few_lt, PowOk_iff, Nat.reduceLeDiff, Int.reduceLE, Int.reduceLT, Int.reduceAbs, Int.reduceMul, Int.reduceAdd, Int.reduceSub, Int.reduceNeg, Int.reduceDiv, Int.reduceMod, ↓fEq_int, ↓fEq_str, ↓fEq_bl, ↓fMax2, ↓fMin2, rowD, natsD_len, Nat.reducePow, Nat.reduceLT, Int.reduceToNat, Int.reducePow, and_self, Int.zero_add, List.getD_cons_zero, List.getD_cons_succ, ne_shfr, ne_owfr, ne_bofr, ne_lnfr, Int.toNat_natCast, Nat.one_mul, Nat.reduceBEq, reduceIte, ↓reduceIte, ↓wChain_eq, ↓d_fIsi, ↓d_fRevL, ↓d_fRgL, ↓d_fRgT, tyD, isiB, String.reduceBEq, Bool.or_true, Bool.true_or, Bool.or_false, Bool.false_or, Bool.and_true, Bool.true_and, Bool.and_false, Bool.false_and, ↓fEq_row, ↓fEq_nats, ↓fEq_nats0, rng_nats, ↓fSum_row, ↓fSum_nats, g1, e2, e3, ixN_nat hil, ixN_nat hjl, natsD_set, atI_nats g3, e5, List.length_set]
      have h1 := sm (v := xs.getD i 0 - (1 + p)) (getD_get hil)
      have h2 := sm (v := xs.getD j 0 + (1 + p)) g3
      refine ⟨mulOkI (by omega), after _ (by omega) (by simp) (by omega)⟩
  walk_at "wp"
  refine brD (fun h => ?_) (fun h => ?_)
  · have e6 : (natsD xs).reverse = natsD xs.reverse := by unfold natsD; rw [List.map_reverse]
    simp only [↓d_sSeq, ↓d_sAsg, ↓d_sExpr, ↓d_sRet, ↓d_sRetN, ↓d_sNext, ↓d_sAug, ↓d_sPar, ↓d_sBreak, ↓d_sCont, ↓d_wTB, ↓d_wTV, ↓d_wNotT, ↓d_wNotE, ↓d_w1, ↓d_w2, ↓d_wN, ↓d_wC, ↓d_wVar, ↓d_wMove, ↓d_wMut, ↓d_wSl, ↓d_oTmp, ↓d_oLoc, ↓d_aNil, ↓d_aCons, ↓d_aRev, res, ress, callA, takeA, nextR, backA, putB, ↓d_gN, ↓d_gTp, ↓d_gsCons, ↓d_gsNil, ↓d_gIx, canSet_eq, free_un, free_sh1, free_ow1, free_fr1, okR, okM, ↓d_pNone, ↓d_pInt, ↓d_fAdd, ↓d_fSub, ↓d_fMul, ↓d_fDiv, ↓d_fMod, ↓d_fPow, ↓d_fShr, ↓d_fShl, ↓d_fAnd, ↓d_fNeg, ↓d_fCmp, ↓d_fLt, ↓d_fLe, ↓d_fGt, ↓d_fGe, ↓d_fIs, ↓d_fIx, ↓d_fIxK, ↓d_fLen, ↓d_fLenK, ↓d_fAbs, ↓fIntOf_bl, ↓fIntOf_int, b2i_true, b2i_false, ↓d_fAddI, ↓d_fMulI, ↓d_fLst, ↓d_fTup, shs, fSeq, fZip, fRev, ↓d_mAppend, ↓d_mExtend, ↓d_mPop0, ↓d_mPopAt, D.isLst, locs, lend, lendI, lent, home, homeI, back1, wipeR, unwipe, ↓d_homeD, wYes, noX, Option.toList, List.getElem?_cons_zero, List.getElem?_cons_succ, List.set_cons_zero, List.set_cons_succ, List.length_cons, List.length_nil, List.headD_cons, List.headD_nil, List.tail_cons, List.tail_nil, List.reverse_cons, List.reverse_nil, List.nil_append, List.cons_append, Nat.zero_add, Bool.false_eq_true, if_true, if_false, ite_true, ite_false, List.contains_cons, List.contains_nil, initR, edOf, outsOf, slotR, List.map_cons, List.map_nil, List.replicate_succ, List.replicate_zero, List.append_nil, Nat.reduceAdd, Nat.reduceSub, Nat.reduceMul, FS_pm, FS_ar, Mo.own, sI, sD, nv, iv, ↓d_fListOf, ↓d_fTupOf, ↓d_parW1, ↓d_parW2, ↓d_sRaise, ↓sIf_eq, ↓wIf_eq, ↓wAndT_eq, ↓wOrT_eq, ↓wAndE_eq, ↓wOrE_eq, ↓sFor_eq, ↓wComp_eq, ↓wCall_eq, ↓sWhile_eq, ↓turnW_eq, brP_true, brP_false, true_and, and_true, pair_eta, atI_0, atI_1, atI_2, atI_3, natsD_cons, natsD_nil, decide_true, decide_false, Bool.not_true, Bool.not_false, Bool.true_xor, Bool.false_xor, Bool.xor_self, few_eq, few_lt, PowOk_iff, Nat.reduceLeDiff, Int.reduceLE, Int.reduceLT, Int.reduceAbs, Int.reduceMul, Int.reduceAdd, Int.reduceSub, Int.reduceNeg, Int.reduceDiv, Int.reduceMod, ↓fEq_int, ↓fEq_str, ↓fEq_bl, ↓fMax2, ↓fMin2, rowD, natsD_len, Nat.reducePow, Nat.reduceLT, Int.reduceToNat, Int.reducePow, and_self, Int.zero_add, List.getD_cons_zero, List.getD_cons_succ, ne_shfr, ne_owfr, ne_bofr, ne_lnfr, Int.toNat_natCast, Nat.one_mul, Nat.reduceBEq, reduceIte, ↓reduceIte, ↓wChain_eq, ↓d_fIsi, ↓d_fRevL, ↓d_fRgL, ↓d_fRgT, tyD, isiB, String.reduceBEq, Bool.or_true, Bool.true_or, Bool.or_false, Bool.false_or, Bool.and_true, Bool.true_and, Bool.and_false, Bool.false_and, ↓fEq_row, ↓fEq_nats, ↓fEq_nats0, rng_nats, ↓fSum_row, ↓fSum_nats, e6]
    exact after _ (by rw [List.sum_reverse]; exact hs) (by simp) (by rw [List.sum_reverse]; omega)
  walk_at "wp"
  refine brD (fun h => ?_) (fun h => ?_)
  · have e5 : ((xs.getD i 0 : Nat) : Int) + 1 = ((xs.getD i 0 + 1 : Nat) : Int) := by omega
    simp only [↓d_sSeq, ↓d_sAsg, ↓d_sExpr, ↓d_sRet, ↓d_sRetN, ↓d_sNext, ↓d_sAug, ↓d_sPar, ↓d_sBreak, ↓d_sCont, ↓d_wTB, ↓d_wTV, ↓d_wNotT, ↓d_wNotE, ↓d_w1, ↓d_w2, ↓d_wN, ↓d_wC, ↓d_wVar, ↓d_wMove, ↓d_wMut, ↓d_wSl, ↓d_oTmp, ↓d_oLoc, ↓d_aNil, ↓d_aCons, ↓d_aRev, res, ress, callA, takeA, nextR, backA, putB, ↓d_gN, ↓d_gTp, ↓d_gsCons, ↓d_gsNil, ↓d_gIx, canSet_eq, free_un, free_sh1, free_ow1, free_fr1, okR, okM, ↓d_pNone, ↓d_pInt, ↓d_fAdd, ↓d_fSub, ↓d_fMul, ↓d_fDiv, ↓d_fMod, ↓d_fPow, ↓d_fShr, ↓d_fShl, ↓d_fAnd, ↓d_fNeg, ↓d_fCmp, ↓d_fLt, ↓d_fLe, ↓d_fGt, ↓d_fGe, ↓d_fIs, ↓d_fIx, ↓d_fIxK, ↓d_fLen, ↓d_fLenK, ↓d_fAbs, ↓fIntOf_bl, ↓fIntOf_int, b2i_true, b2i_false, ↓d_fAddI, ↓d_fMulI, ↓d_fLst, ↓d_fTup, shs, fSeq, fZip, fRev, ↓d_mAppend, ↓d_mExtend, ↓d_mPop0, ↓d_mPopAt, D.isLst, locs, lend, lendI, lent, home, homeI, back1, wipeR, unwipe, ↓d_homeD, wYes, noX, Option.toList, List.getElem?_cons_zero, List.getElem?_cons_succ, List.set_cons_zero, List.set_cons_succ, List.length_cons, List.length_nil, List.headD_cons, List.headD_nil, List.tail_cons, List.tail_nil, List.reverse_cons, List.reverse_nil, List.nil_append, List.cons_append, Nat.zero_add, Bool.false_eq_true, if_true, if_false, ite_true, ite_false, List.contains_cons, List.contains_nil, initR, edOf, outsOf, slotR, List.map_cons, List.map_nil, List.replicate_succ, List.replicate_zero, List.append_nil, Nat.reduceAdd, Nat.reduceSub, Nat.reduceMul, FS_pm, FS_ar, Mo.own, sI, sD, nv, iv, ↓d_fListOf, ↓d_fTupOf, ↓d_parW1, ↓d_parW2, ↓d_sRaise, ↓sIf_eq, ↓wIf_eq, ↓wAndT_eq, ↓wOrT_eq, ↓wAndE_eq, ↓wOrE_eq, ↓sFor_eq, ↓wComp_eq, ↓wCall_eq, ↓sWhile_eq, ↓turnW_eq, brP_true, brP_false, true_and, and_true, pair_eta, atI_0, atI_1, atI_2, atI_3, natsD_cons, natsD_nil, decide_true, decide_false, Bool.not_true, Bool.not_false, Bool.true_xor, Bool.false_xor, Bool.xor_self, few_eq, few_lt, PowOk_iff, Nat.reduceLeDiff, Int.reduceLE, Int.reduceLT, Int.reduceAbs, Int.reduceMul, Int.reduceAdd, Int.reduceSub, Int.reduceNeg, Int.reduceDiv, Int.reduceMod, ↓fEq_int, ↓fEq_str, ↓fEq_bl, ↓fMax2, ↓fMin2, rowD, natsD_len, Nat.reducePow, Nat.reduceLT, Int.reduceToNat, Int.reducePow, and_self, Int.zero_add, List.getD_cons_zero, List.getD_cons_succ, ne_shfr, ne_owfr, ne_bofr, ne_lnfr, Int.toNat_natCast, Nat.one_mul, Nat.reduceBEq, reduceIte, ↓reduceIte, ↓wChain_eq, ↓d_fIsi, ↓d_fRevL, ↓d_fRgL, ↓d_fRgT, tyD, isiB, String.reduceBEq, Bool.or_true, Bool.true_or, Bool.or_false, Bool.false_or, Bool.and_true, Bool.true_and, Bool.and_false, Bool.false_and, ↓fEq_row, ↓fEq_nats, ↓fEq_nats0, rng_nats, ↓fSum_row, ↓fSum_nats, g1, e5, ixN_nat hil, natsD_set]
    have h1 := sm (v := xs.getD i 0 + 1) (getD_get hil)
    exact after _ (by omega) (by simp) (by omega)
  walk_at "wp"
  refine brD (fun h => ?_) (fun h => ?_)
  · have e6 : natsD xs ++ [D.int 0] = natsD (xs ++ [0]) := by rw [natsD_app]; rfl
    simp only [↓d_sSeq, ↓d_sAsg, ↓d_sExpr, ↓d_sRet, ↓d_sRetN, ↓d_sNext, ↓d_sAug, ↓d_sPar, ↓d_sBreak, ↓d_sCont, ↓d_wTB, ↓d_wTV, ↓d_wNotT, ↓d_wNotE, ↓d_w1, ↓d_w2, ↓d_wN, ↓d_wC, ↓d_wVar, ↓d_wMove, ↓d_wMut, ↓d_wSl, ↓d_oTmp, ↓d_oLoc, ↓d_aNil, ↓d_aCons, ↓d_aRev, res, ress, callA, takeA, nextR, backA, putB, ↓d_gN, ↓d_gTp, ↓d_gsCons, ↓d_gsNil, ↓d_gIx, canSet_eq, free_un, free_sh1, free_ow1, free_fr1, okR, okM, ↓d_pNone, ↓d_pInt, ↓d_fAdd, ↓d_fSub, ↓d_fMul, ↓d_fDiv, ↓d_fMod, ↓d_fPow, ↓d_fShr, ↓d_fShl, ↓d_fAnd, ↓d_fNeg, ↓d_fCmp, ↓d_fLt, ↓d_fLe, ↓d_fGt, ↓d_fGe, ↓d_fIs, ↓d_fIx, ↓d_fIxK, ↓d_fLen, ↓d_fLenK, ↓d_fAbs, ↓fIntOf_bl, ↓fIntOf_int, b2i_true, b2i_false, ↓d_fAddI, ↓d_fMulI, ↓d_fLst, ↓d_fTup, shs, fSeq, fZip, fRev, ↓d_mAppend, ↓d_mExtend, ↓d_mPop0, ↓d_mPopAt, D.isLst, locs, lend, lendI, lent, home, homeI, back1, wipeR, unwipe, ↓d_homeD, wYes, noX, Option.toList, List.getElem?_cons_zero, List.getElem?_cons_succ, List.set_cons_zero, List.set_cons_succ, List.length_cons, List.length_nil, List.headD_cons, List.headD_nil, List.tail_cons, List.tail_nil, List.reverse_cons, List.reverse_nil, List.nil_append, List.cons_append, Nat.zero_add, Bool.false_eq_true, if_true, if_false, ite_true, ite_false, List.contains_cons, List.contains_nil, initR, edOf, outsOf, slotR, List.map_cons, List.map_nil, List.replicate_succ, List.replicate_zero, List.append_nil, Nat.reduceAdd, Nat.reduceSub, Nat.reduceMul, FS_pm, FS_ar, Mo.own, sI, sD, nv, iv, ↓d_fListOf, ↓d_fTupOf, ↓d_parW1, ↓d_parW2, ↓d_sRaise, ↓sIf_eq, ↓wIf_eq, ↓wAndT_eq, ↓wOrT_eq, ↓wAndE_eq, ↓wOrE_eq, ↓sFor_eq, ↓wComp_eq, ↓wCall_eq, ↓sWhile_eq, ↓turnW_eq, brP_true, brP_false, true_and, and_true, pair_eta, atI_0, atI_1, atI_2, atI_3, natsD_cons, natsD_nil, decide_true, decide_false, Bool.not_true, Bool.not_false, Bool.true_xor, Bool.false_xor, Bool.xor_self, few_eq, few_lt, PowOk_iff, Nat.reduceLeDiff, Int.reduceLE, Int.reduceLT, Int.reduceAbs, Int.reduceMul, Int.reduceAdd, Int.reduceSub, Int.reduceNeg, Int.reduceDiv, Int.reduceMod, ↓fEq_int, ↓fEq_str, ↓fEq_bl, ↓fMax2, ↓fMin2, rowD, natsD_len, Nat.reducePow, Nat.reduceLT, Int.reduceToNat, Int.reducePow, and_self, Int.zero_add, List.getD_cons_zero, List.getD_cons_succ, ne_shfr, ne_owfr, ne_bofr, ne_lnfr, Int.toNat_natCast, Nat.one_mul, Nat.reduceBEq, reduceIte, ↓reduceIte, ↓wChain_eq, ↓d_fIsi, ↓d_fRevL, ↓d_fRgL, ↓d_fRgT, tyD, isiB, String.reduceBEq, Bool.or_true, Bool.true_or, Bool.or_false, Bool.false_or, Bool.and_true, Bool.true_and, Bool.and_false, Bool.false_and, ↓fEq_row, ↓fEq_nats, ↓fEq_nats0, rng_nats, ↓fSum_row, ↓fSum_nats, e6]
    exact ⟨by omega, after _ (by simp; omega) (by simp) (by simp; omega)⟩
  · exact after xs hs (by omega) (by omega)
end G
end
section
set_option Elab.async false
set_option linter.all false
set_option maxRecDepth 100000
set_option maxHeartbeats 1000000
set_option exponentiation.threshold 100000
namespace G
open PySem PySem.Spec L2
local macro_rules | `(tactic| walk_at "wk") => `(tactic| simp only [↓sSeq_eq, ↓d_sAsg, ↓d_sExpr, ↓d_sRet, ↓d_sRetN, ↓d_sNext, ↓d_sAug, ↓d_sPar, ↓d_sBreak, ↓d_sCont, ↓d_wTB, ↓d_wTV, ↓d_wNotT, ↓d_wNotE, ↓d_w1, ↓d_w2, ↓d_wN, ↓d_wC, ↓d_wVar, ↓d_wMove, ↓d_wMut, ↓d_wSl, ↓d_oTmp, ↓d_oLoc, ↓d_aNil, ↓d_aCons, ↓d_aRev, res, ress, callA, takeA, nextR, backA, putB, ↓d_gN, ↓d_gTp, ↓d_gsCons, ↓d_gsNil, ↓d_gIx, canSet_eq, free_un, free_sh1, free_ow1, free_fr1, okR, okM, ↓d_pNone, ↓d_pInt, ↓d_fAdd, ↓d_fSub, ↓d_fMul, ↓d_fDiv, ↓d_fMod, ↓d_fPow, ↓d_fShr, ↓d_fShl, ↓d_fAnd, ↓d_fNeg, ↓d_fCmp, ↓d_fLt, ↓d_fLe, ↓d_fGt, ↓d_fGe, ↓d_fIs, ↓d_fIx, ↓d_fIxK, ↓d_fLen, ↓d_fLenK, ↓d_fAbs, ↓fIntOf_bl, ↓fIntOf_int, b2i_true, b2i_false, ↓d_fAddI, ↓d_fMulI, ↓d_fLst, ↓d_fTup, shs, fSeq, fZip, fRev, ↓d_mAppend, ↓d_mExtend, ↓d_mPop0, ↓d_mPopAt, D.isLst, locs, lend, lendI, lent, home, homeI, back1, wipeR, unwipe, ↓d_homeD, wYes, noX, Option.toList, List.getElem?_cons_zero, List.getElem?_cons_succ, List.set_cons_zero, List.set_cons_succ, List.length_cons, List.length_nil, List.headD_cons, List.headD_nil, List.tail_cons, List.tail_nil, List.reverse_cons, List.reverse_nil, List.nil_append, List.cons_append, Nat.zero_add, Bool.false_eq_true, if_true, if_false, ite_true, ite_false, List.contains_cons, List.contains_nil, initR, edOf, outsOf, slotR, List.map_cons, List.map_nil, List.replicate_succ, List.replicate_zero, List.append_nil, Nat.reduceAdd, Nat.reduceSub, Nat.reduceMul, FS_pm, FS_ar, Mo.own, sI, sD, nv, iv, ↓d_fListOf, ↓d_fTupOf, ↓d_parW1, ↓d_parW2, ↓d_sRaise, ↓sIf_eq, ↓wIf_eq, ↓wAndT_eq, ↓wOrT_eq, ↓wAndE_eq, ↓wOrE_eq, ↓sFor_eq, ↓wComp_eq, ↓wCall_eq, ↓sWhile_eq, ↓turnW_eq, brP_true, brP_false, true_and, and_true, pair_eta, atI_0, atI_1, atI_2, atI_3, natsD_cons, natsD_nil, decide_true, decide_false, Bool.not_true, Bool.not_false, Bool.true_xor, Bool.false_xor, Bool.xor_self, few_eq, few_lt, PowOk_iff, Nat.reduceLeDiff, Int.reduceLE, Int.reduceLT, Int.reduceAbs, Int.reduceMul, Int.reduceAdd, Int.reduceSub, Int.reduceNeg, Int.reduceDiv, Int.reduceMod, ↓fEq_int, ↓fEq_str, ↓fEq_bl, ↓fMax2, ↓fMin2, rowD, natsD_len, Nat.reducePow, Nat.reduceLT, Int.reduceToNat, Int.reducePow, and_self, Int.zero_add, List.getD_cons_zero, List.getD_cons_succ, ne_shfr, ne_owfr, ne_bofr, ne_lnfr, Int.toNat_natCast, Nat.one_mul, Nat.reduceBEq, reduceIte, ↓reduceIte, ↓wChain_eq, ↓d_fIsi, ↓d_fRevL, ↓d_fRgL, ↓d_fRgT, tyD, isiB, String.reduceBEq, Bool.or_true, Bool.true_or, Bool.or_false, Bool.false_or, Bool.and_true, Bool.true_and, Bool.and_false, Bool.false_and, ↓fEq_row, ↓fEq_nats, ↓fEq_nats0, rng_nats, ↓fSum_row, ↓fSum_nats])
local macro_rules | `(tactic| walk_at "wp") => `(tactic| simp only [↓d_sSeq, ↓d_sAsg, ↓d_sExpr, ↓d_sRet, ↓d_sRetN, ↓d_sNext, ↓d_sAug, ↓d_sPar, ↓d_sBreak, ↓d_sCont, ↓d_wTB, ↓d_wTV, ↓d_wNotT, ↓d_wNotE, ↓d_w1, ↓d_w2, ↓d_wN, ↓d_wC, ↓d_wVar, ↓d_wMove, ↓d_wMut, ↓d_wSl, ↓d_oTmp, ↓d_oLoc, ↓d_aNil, ↓d_aCons, ↓d_aRev, res, ress, callA, takeA, nextR, backA, putB, ↓d_gN, ↓d_gTp, ↓d_gsCons, ↓d_gsNil, ↓d_gIx, canSet_eq, free_un, free_sh1, free_ow1, free_fr1, okR, okM, ↓d_pNone, ↓d_pInt, ↓d_fAdd, ↓d_fSub, ↓d_fMul, ↓d_fDiv, ↓d_fMod, ↓d_fPow, ↓d_fShr, ↓d_fShl, ↓d_fAnd, ↓d_fNeg, ↓d_fCmp, ↓d_fLt, ↓d_fLe, ↓d_fGt, ↓d_fGe, ↓d_fIs, ↓d_fIx, ↓d_fIxK, ↓d_fLen, ↓d_fLenK, ↓d_fAbs, ↓fIntOf_bl, ↓fIntOf_int, b2i_true, b2i_false, ↓d_fAddI, ↓d_fMulI, ↓d_fLst, ↓d_fTup, shs, fSeq, fZip, fRev, ↓d_mAppend, ↓d_mExtend, ↓d_mPop0, ↓d_mPopAt, D.isLst, locs, lend, lendI, lent, home, homeI, back1, wipeR, unwipe, ↓d_homeD, wYes, noX, Option.toList, List.getElem?_cons_zero, List.getElem?_cons_succ, List.set_cons_zero, List.set_cons_succ, List.length_cons, List.length_nil, List.headD_cons, List.headD_nil, List.tail_cons, List.tail_nil, List.reverse_cons, List.reverse_nil, List.nil_append, List.cons_append, Nat.zero_add, Bool.false_eq_true, if_true, if_false, ite_true, ite_false, List.contains_cons, List.contains_nil, initR, edOf, outsOf, slotR, List.map_cons, List.map_nil, List.replicate_succ, List.replicate_zero, List.append_nil, Nat.reduceAdd, Nat.reduceSub, Nat.reduceMul, FS_pm, FS_ar, Mo.own, sI, sD, nv, iv, ↓d_fListOf, ↓d_fTupOf, ↓d_parW1, ↓d_parW2, ↓d_sRaise, ↓sIf_eq, ↓wIf_eq, ↓wAndT_eq, ↓wOrT_eq, ↓wAndE_eq, ↓wOrE_eq, ↓sFor_eq, ↓wComp_eq, ↓wCall_eq, ↓sWhile_eq, ↓turnW_eq, brP_true, brP_false, true_and, and_true, pair_eta, atI_0, atI_1, atI_2, atI_3, natsD_cons, natsD_nil, decide_true, decide_false, Bool.not_true, Bool.not_false, Bool.true_xor, Bool.false_xor, Bool.xor_self, few_eq, few_lt, PowOk_iff, Nat.reduceLeDiff, Int.reduceLE, Int.reduceLT, Int.reduceAbs, Int.reduceMul, Int.reduceAdd, Int.reduceSub, Int.reduceNeg, Int.reduceDiv, Int.reduceMod, ↓fEq_int, ↓fEq_str, ↓fEq_bl, ↓fMax2, ↓fMin2, rowD, natsD_len, Nat.reducePow, Nat.reduceLT, Int.reduceToNat, Int.reducePow, and_self, Int.zero_add, List.getD_cons_zero, List.getD_cons_succ, ne_shfr, ne_owfr, ne_bofr, ne_lnfr, Int.toNat_natCast, Nat.one_mul, Nat.reduceBEq, reduceIte, ↓reduceIte, ↓wChain_eq, ↓d_fIsi, ↓d_fRevL, ↓d_fRgL, ↓d_fRgT, tyD, isiB, String.reduceBEq, Bool.or_true, Bool.true_or, Bool.or_false, Bool.false_or, Bool.and_true, Bool.true_and, Bool.and_false, Bool.false_and, ↓fEq_row, ↓fEq_nats, ↓fEq_nats0, rng_nats, ↓fSum_row, ↓fSum_nats])
def clNames : List Str := ["places", "sum", "nothing", "measure", "twos", "odd ones", "doubled", "pair"]
theorem lastL_names {xs ys : List Nat} : ∀ w ∈ lastL xs ys, w ∈ clNames := by
  intro x hx
  unfold lastL at hx
  simp only [List.mem_append] at hx
  rcases hx with ((((h | h) | h) | h) | h) | h <;> (rw [mem_w1 h]; decide +kernel)
theorem brokenL_names {xs ys : List Nat} : ∀ w ∈ brokenL xs ys, w ∈ clNames := by
  intro x hx
  unfold brokenL at hx
  split at hx
  · cases hx
  split at hx
  · exact lastL_names x hx
  · simp at hx; subst hx; decide +kernel
theorem brokenL_len (xs ys : List Nat) : (brokenL xs ys).length ≤ 6 := by
  unfold brokenL
  split
  · simp
  split
  · unfold lastL
    simp only [List.length_append]
    have L := w1?_len
    have := L (decide (xs.sum ≠ ys.sum)) "sum"
    have := L (gotL xs ys) "nothing"
    have := L (decide (od (gcdL xs) ≠ od (gcdL ys))) "measure"
    have := L (decide (tw (gcdL ys) < tw (gcdL xs))) "twos"
    have := L (decide (tw (gcdL ys) = tw (gcdL xs)) && decide (oddN xs < oddN ys)) "odd ones"
    have := L (decide (tw (gcdL ys) = tw (gcdL xs)) && decide (oddN ys = hn ys)) "doubled"
    omega
  · simp
theorem clNames_ok : ∀ w ∈ clNames, (w.cps.toList.all fun c => decide (c < 16 ^ 8)) = true ∧ w.cps.size ≤ 10 := by decide +kernel
theorem RpDs_words : ∀ {ws : List Str}, (∀ w ∈ ws, w ∈ clNames) → RpDs (strsD ws) ∧ bkDs (strsD ws) ≤ 11 * ws.length
  | [], _ => by unfold strsD RpDs bkDs; exact ⟨trivial, Nat.le_refl _⟩
  | w :: ws, h => by
    obtain ⟨h1, h2⟩ := RpDs_words fun x hx => h x (List.mem_cons_of_mem _ hx)
    obtain ⟨h3, h4⟩ := clNames_ok w (h w List.mem_cons_self)
    show RpDs (.str w :: strsD ws) ∧ bkDs (.str w :: strsD ws) ≤ _
    unfold RpDs RpD bkDs bkD
    refine ⟨⟨h3, h1⟩, ?_⟩
    rw [List.length_cons]; omega
theorem fRepr_words {m : Mo} {xs ys : List Nat} {Q : R → Prop} : fRepr [(m, .tup (strsD (brokenL xs ys)))] Q = Q (.sh, .str (rpr (.tup (strsD (brokenL xs ys))))) := by
  obtain ⟨h1, h2⟩ := RpDs_words (brokenL_names (xs := xs) (ys := ys))
  have := brokenL_len xs ys
  exact fRepr_eq (by unfold RpD; exact h1) (by unfold bkD; omega) (by unfold depD; rw [depDs_strs]; decide)
theorem fRepr_two {m : Mo} {xs ys : List Nat} {Q : R → Prop} (hx : ∀ x ∈ xs, x < 2 ^ 200) (hy : ∀ x ∈ ys, x < 2 ^ 200) (lx : xs.length ≤ 1000) (ly : ys.length ≤ 1000) : fRepr [(m, .tup [.tup (natsD xs), .tup (natsD ys)])] Q = Q (.sh, .str (rpr (.tup [.tup (natsD xs), .tup (natsD ys)]))) := by
  refine fRepr_eq ?_ ?_ ?_
  · unfold RpD RpDs RpDs RpDs RpD
    exact ⟨RpDs_nats fun x h => small200 (hx x h), RpDs_nats fun x h => small200 (hy x h), trivial⟩
  · unfold bkD bkDs bkDs bkDs bkD
    rw [bkDs_nats, bkDs_nats]; omega
  · unfold depD depDs depDs depDs depD
    rw [depDs_nats, depDs_nats]; decide
structure Fit (xs ys : List Nat) : Prop where
  gx : 0 < gcdL xs
  gy : 0 < gcdL ys
  lx : xs.length ≤ 1000
  ly : ys.length ≤ 1000
  bx : ∀ x ∈ xs, x < 2 ^ 200
  by' : ∀ x ∈ ys, x < 2 ^ 200
  h3 : xs ≠ ys → xs.length = ys.length → lastL xs ys = [] → 3 ≤ hn xs
abbrev sp_k15_right : FSpec := FS (α := List Nat × List Nat) 2 [] (fun a => [(.sh, rowD a.1), (.sh, rowD a.2)]) (fun a => Fit a.1 a.2) (fun a r o => r = (.sh, .bl true) ∧ o = []) noExc
def w_k15_right (kl : Kl) : WS :=
(sSeq (sPar [2, 3] (aCons (oTmp (wCall sp_k15_due (aCons (oLoc 0) (aCons (oLoc 1) aNil)))) (aCons (oTmp (wN fRepr (aCons (oTmp (wN fTup (aCons (oTmp (wVar 0)) (aCons (oTmp (wVar 1)) aNil)))) aNil))) aNil)))
(sSeq (sIf (wOrT (wTB (w2 (fEq true) (oTmp (wN fRepr (aCons (oTmp (wCall sp_broken (aCons (oLoc 0) (aCons (oLoc 1) aNil)))) aNil))) (oTmp (wN fRepr (aCons (oLoc 2) aNil))))) (wTB (w2 (fEq true) (oTmp (wN fRepr (aCons (oTmp (wCall sp_comes (aCons (oLoc 0) (aCons (oLoc 1) aNil)))) aNil))) (oTmp (wN fRepr (aCons (oTmp (w2 (fEq false) (oLoc 2) (oTmp (wN fTup aNil)))) aNil))))))
(sRet (wC (.bl false)))
sNext)
(sRet (w2 (fEq false) (oTmp (wN fRepr (aCons (oTmp (wN fTup (aCons (oTmp (wVar 0)) (aCons (oTmp (wVar 1)) aNil)))) aNil))) (oLoc 3)))))
theorem vc_k15_right (kl : Kl) : VC sp_k15_right 4 (w_k15_right kl) := FS.vc fun ⟨xs, ys⟩ F Q E hQ => by
  simp only at F hQ
  have rp : ∀ {m : Mo} {Q : R → Prop}, fRepr [(m, .tup [.tup (natsD xs), .tup (natsD ys)])] Q = Q (.sh, .str (rpr (.tup [.tup (natsD xs), .tup (natsD ys)]))) := fun {m Q} => fRepr_two F.bx F.by' F.lx F.ly
  unfold w_k15_right
  walk_at "wp"
  refine call0 (xs, ys) rfl rfl ⟨F.gx, F.gy, F.lx, F.ly, F.bx, F.by', F.h3⟩ ?_
  rintro _ _ ⟨rfl, rfl⟩
  simp only [↓d_sSeq, ↓d_sAsg, ↓d_sExpr, ↓d_sRet, ↓d_sRetN, ↓d_sNext, ↓d_sAug, ↓d_sPar, ↓d_sBreak, ↓d_sCont, ↓d_wTB, ↓d_wTV, ↓d_wNotT, ↓d_wNotE, ↓d_w1, ↓d_w2, ↓d_wN, ↓d_wC, ↓d_wVar, ↓d_wMove, ↓d_wMut, ↓d_wSl, ↓d_oTmp, ↓d_oLoc, ↓d_aNil, ↓d_aCons, ↓d_aRev, res, ress, callA, takeA, nextR, backA, putB, ↓d_gN, ↓d_gTp, ↓d_gsCons, ↓d_gsNil, ↓d_gIx, canSet_eq, free_un, free_sh1, free_ow1, free_fr1, okR, okM, ↓d_pNone, ↓d_pInt, ↓d_fAdd, ↓d_fSub, ↓d_fMul, ↓d_fDiv, ↓d_fMod, ↓d_fPow, ↓d_fShr, ↓d_fShl, ↓d_fAnd, ↓d_fNeg, ↓d_fCmp, ↓d_fLt, ↓d_fLe, ↓d_fGt, ↓d_fGe, ↓d_fIs, ↓d_fIx, ↓d_fIxK, ↓d_fLen, ↓d_fLenK, ↓d_fAbs, ↓fIntOf_bl, ↓fIntOf_int, b2i_true, b2i_false, ↓d_fAddI, ↓d_fMulI, ↓d_fLst, ↓d_fTup, shs, fSeq, fZip, fRev, ↓d_mAppend, ↓d_mExtend, ↓d_mPop0, ↓d_mPopAt, D.isLst, locs, lend, lendI, lent, home, homeI, back1, wipeR, unwipe, ↓d_homeD, wYes, noX, Option.toList, List.getElem?_cons_zero, List.getElem?_cons_succ, List.set_cons_zero, List.set_cons_succ, List.length_cons, List.length_nil, List.headD_cons, List.headD_nil, List.tail_cons, List.tail_nil, List.reverse_cons, List.reverse_nil, List.nil_append, List.cons_append, Nat.zero_add, Bool.false_eq_true, if_true, if_false, ite_true, ite_false, List.contains_cons, List.contains_nil, initR, edOf, outsOf, slotR, List.map_cons, List.map_nil, List.replicate_succ, List.replicate_zero, List.append_nil, Nat.reduceAdd, Nat.reduceSub, Nat.reduceMul, FS_pm, FS_ar, Mo.own, sI, sD, nv, iv, ↓d_fListOf, ↓d_fTupOf, ↓d_parW1, ↓d_parW2, ↓d_sRaise, ↓sIf_eq, ↓wIf_eq, ↓wAndT_eq, ↓wOrT_eq, ↓wAndE_eq, ↓wOrE_eq, ↓sFor_eq, ↓wComp_eq, ↓wCall_eq, ↓sWhile_eq, ↓turnW_eq, brP_true, brP_false, true_and, and_true, pair_eta, atI_0, atI_1, atI_2, atI_3, natsD_cons, natsD_nil, decide_true, decide_false, Bool.not_true, Bool.not_false, Bool.true_xor, Bool.false_xor, Bool.xor_self, few_eq, few_lt, PowOk_iff, Nat.reduceLeDiff, Int.reduceLE, Int.reduceLT, Int.reduceAbs, Int.reduceMul, Int.reduceAdd, Int.reduceSub, Int.reduceNeg, Int.reduceDiv, Int.reduceMod, ↓fEq_int, ↓fEq_str, ↓fEq_bl, ↓fMax2, ↓fMin2, rowD, natsD_len, Nat.reducePow, Nat.reduceLT, Int.reduceToNat, Int.reducePow, and_self, Int.zero_add, List.getD_cons_zero, List.getD_cons_succ, ne_shfr, ne_owfr, ne_bofr, ne_lnfr, Int.toNat_natCast, Nat.one_mul, Nat.reduceBEq, reduceIte, ↓reduceIte, ↓wChain_eq, ↓d_fIsi, ↓d_fRevL, ↓d_fRgL, ↓d_fRgT, tyD, isiB, String.reduceBEq, Bool.or_true, Bool.true_or, Bool.or_false, Bool.false_or, Bool.and_true, Bool.true_and, Bool.and_false, Bool.false_and, ↓fEq_row, ↓fEq_nats, ↓fEq_nats0, rng_nats, ↓fSum_row, ↓fSum_nats, rp]
  refine call0 (xs, ys) rfl rfl ⟨F.gx, F.gy, few F.lx, few F.ly, F.h3⟩ ?_
  rintro _ _ ⟨rfl, rfl⟩
  simp only [↓d_sSeq, ↓d_sAsg, ↓d_sExpr, ↓d_sRet, ↓d_sRetN, ↓d_sNext, ↓d_sAug, ↓d_sPar, ↓d_sBreak, ↓d_sCont, ↓d_wTB, ↓d_wTV, ↓d_wNotT, ↓d_wNotE, ↓d_w1, ↓d_w2, ↓d_wN, ↓d_wC, ↓d_wVar, ↓d_wMove, ↓d_wMut, ↓d_wSl, ↓d_oTmp, ↓d_oLoc, ↓d_aNil, ↓d_aCons, ↓d_aRev, res, ress, callA, takeA, nextR, backA, putB, ↓d_gN, ↓d_gTp, ↓d_gsCons, ↓d_gsNil, ↓d_gIx, canSet_eq, free_un, free_sh1, free_ow1, free_fr1, okR, okM, ↓d_pNone, ↓d_pInt, ↓d_fAdd, ↓d_fSub, ↓d_fMul, ↓d_fDiv, ↓d_fMod, ↓d_fPow, ↓d_fShr, ↓d_fShl, ↓d_fAnd, ↓d_fNeg, ↓d_fCmp, ↓d_fLt, ↓d_fLe, ↓d_fGt, ↓d_fGe, ↓d_fIs, ↓d_fIx, ↓d_fIxK, ↓d_fLen, ↓d_fLenK, ↓d_fAbs, ↓fIntOf_bl, ↓fIntOf_int, b2i_true, b2i_false, ↓d_fAddI, ↓d_fMulI, ↓d_fLst, ↓d_fTup, shs, fSeq, fZip, fRev, ↓d_mAppend, ↓d_mExtend, ↓d_mPop0, ↓d_mPopAt, D.isLst, locs, lend, lendI, lent, home, homeI, back1, wipeR, unwipe, ↓d_homeD, wYes, noX, Option.toList, List.getElem?_cons_zero, List.getElem?_cons_succ, List.set_cons_zero, List.set_cons_succ, List.length_cons, List.length_nil, List.headD_cons, List.headD_nil, List.tail_cons, List.tail_nil, List.reverse_cons, List.reverse_nil, List.nil_append, List.cons_append, Nat.zero_add, Bool.false_eq_true, if_true, if_false, ite_true, ite_false, List.contains_cons, List.contains_nil, initR, edOf, outsOf, slotR, List.map_cons, List.map_nil, List.replicate_succ, List.replicate_zero, List.append_nil, Nat.reduceAdd, Nat.reduceSub, Nat.reduceMul, FS_pm, FS_ar, Mo.own, sI, sD, nv, iv, ↓d_fListOf, ↓d_fTupOf, ↓d_parW1, ↓d_parW2, ↓d_sRaise, ↓sIf_eq, ↓wIf_eq, ↓wAndT_eq, ↓wOrT_eq, ↓wAndE_eq, ↓wOrE_eq, ↓sFor_eq, ↓wComp_eq, ↓wCall_eq, ↓sWhile_eq, ↓turnW_eq, brP_true, brP_false, true_and, and_true, pair_eta, atI_0, atI_1, atI_2, atI_3, natsD_cons, natsD_nil, decide_true, decide_false, Bool.not_true, Bool.not_false, Bool.true_xor, Bool.false_xor, Bool.xor_self, few_eq, few_lt, PowOk_iff, Nat.reduceLeDiff, Int.reduceLE, Int.reduceLT, Int.reduceAbs, Int.reduceMul, Int.reduceAdd, Int.reduceSub, Int.reduceNeg, Int.reduceDiv, Int.reduceMod, ↓fEq_int, ↓fEq_str, ↓fEq_bl, ↓fMax2, ↓fMin2, rowD, natsD_len, Nat.reducePow, Nat.reduceLT, Int.reduceToNat, Int.reducePow, and_self, Int.zero_add, List.getD_cons_zero, List.getD_cons_succ, ne_shfr, ne_owfr, ne_bofr, ne_lnfr, Int.toNat_natCast, Nat.one_mul, Nat.reduceBEq, reduceIte, ↓reduceIte, ↓wChain_eq, ↓d_fIsi, ↓d_fRevL, ↓d_fRgL, ↓d_fRgT, tyD, isiB, String.reduceBEq, Bool.or_true, Bool.true_or, Bool.or_false, Bool.false_or, Bool.and_true, Bool.true_and, Bool.and_false, Bool.false_and, ↓fEq_row, ↓fEq_nats, ↓fEq_nats0, rng_nats, ↓fSum_row, ↓fSum_nats, fRepr_words]
  refine call0 (xs, ys) rfl rfl ⟨F.gx, F.gy, few F.lx, few F.ly, F.h3⟩ ?_
  rintro _ _ ⟨rfl, rfl⟩
  simp only [↓d_sSeq, ↓d_sAsg, ↓d_sExpr, ↓d_sRet, ↓d_sRetN, ↓d_sNext, ↓d_sAug, ↓d_sPar, ↓d_sBreak, ↓d_sCont, ↓d_wTB, ↓d_wTV, ↓d_wNotT, ↓d_wNotE, ↓d_w1, ↓d_w2, ↓d_wN, ↓d_wC, ↓d_wVar, ↓d_wMove, ↓d_wMut, ↓d_wSl, ↓d_oTmp, ↓d_oLoc, ↓d_aNil, ↓d_aCons, ↓d_aRev, res, ress, callA, takeA, nextR, backA, putB, ↓d_gN, ↓d_gTp, ↓d_gsCons, ↓d_gsNil, ↓d_gIx, canSet_eq, free_un, free_sh1, free_ow1, free_fr1, okR, okM, ↓d_pNone, ↓d_pInt, ↓d_fAdd, ↓d_fSub, ↓d_fMul, ↓d_fDiv, ↓d_fMod, ↓d_fPow, ↓d_fShr, ↓d_fShl, ↓d_fAnd, ↓d_fNeg, ↓d_fCmp, ↓d_fLt, ↓d_fLe, ↓d_fGt, ↓d_fGe, ↓d_fIs, ↓d_fIx, ↓d_fIxK, ↓d_fLen, ↓d_fLenK, ↓d_fAbs, ↓fIntOf_bl, ↓fIntOf_int, b2i_true, b2i_false, ↓d_fAddI, ↓d_fMulI, ↓d_fLst, ↓d_fTup, shs, fSeq, fZip, fRev, ↓d_mAppend, ↓d_mExtend, ↓d_mPop0, ↓d_mPopAt, D.isLst, locs, lend, lendI, lent, home, homeI, back1, wipeR, unwipe, ↓d_homeD, wYes, noX, Option.toList, List.getElem?_cons_zero, List.getElem?_cons_succ, List.set_cons_zero, List.set_cons_succ, List.length_cons, List.length_nil, List.headD_cons, List.headD_nil, List.tail_cons, List.tail_nil, List.reverse_cons, List.reverse_nil, List.nil_append, List.cons_append, Nat.zero_add, Bool.false_eq_true, if_true, if_false, ite_true, ite_false, List.contains_cons, List.contains_nil, initR, edOf, outsOf, slotR, List.map_cons, List.map_nil, List.replicate_succ, List.replicate_zero, List.append_nil, Nat.reduceAdd, Nat.reduceSub, Nat.reduceMul, FS_pm, FS_ar, Mo.own, sI, sD, nv, iv, ↓d_fListOf, ↓d_fTupOf, ↓d_parW1, ↓d_parW2, ↓d_sRaise, ↓sIf_eq, ↓wIf_eq, ↓wAndT_eq, ↓wOrT_eq, ↓wAndE_eq, ↓wOrE_eq, ↓sFor_eq, ↓wComp_eq, ↓wCall_eq, ↓sWhile_eq, ↓turnW_eq, brP_true, brP_false, true_and, and_true, pair_eta, atI_0, atI_1, atI_2, atI_3, natsD_cons, natsD_nil, decide_true, decide_false, Bool.not_true, Bool.not_false, Bool.true_xor, Bool.false_xor, Bool.xor_self, few_eq, few_lt, PowOk_iff, Nat.reduceLeDiff, Int.reduceLE, Int.reduceLT, Int.reduceAbs, Int.reduceMul, Int.reduceAdd, Int.reduceSub, Int.reduceNeg, Int.reduceDiv, Int.reduceMod, ↓fEq_int, ↓fEq_str, ↓fEq_bl, ↓fMax2, ↓fMin2, rowD, natsD_len, Nat.reducePow, Nat.reduceLT, Int.reduceToNat, Int.reducePow, and_self, Int.zero_add, List.getD_cons_zero, List.getD_cons_succ, ne_shfr, ne_owfr, ne_bofr, ne_lnfr, Int.toNat_natCast, Nat.one_mul, Nat.reduceBEq, reduceIte, ↓reduceIte, ↓wChain_eq, ↓d_fIsi, ↓d_fRevL, ↓d_fRgL, ↓d_fRgT, tyD, isiB, String.reduceBEq, Bool.or_true, Bool.true_or, Bool.or_false, Bool.false_or, Bool.and_true, Bool.true_and, Bool.and_false, Bool.false_and, ↓fEq_row, ↓fEq_nats, ↓fEq_nats0, rng_nats, ↓fSum_row, ↓fSum_nats, fRepr_bl, fEq_words0, rp]
  exact hQ _ _ ⟨rfl, rfl⟩
theorem hn_mul {t : Nat} (ht : 0 < t) (xs : List Nat) : hn (xs.map fun x => t * x) = hn xs := by
  unfold hn
  rw [List.filter_map, List.length_map]
  congr 1
  refine List.filter_congr fun x _ => ?_
  have : 0 < t * x ↔ 0 < x := ⟨fun h => Nat.pos_of_mul_pos_left h |> fun h => by rcases Nat.eq_zero_or_pos x with h0 | h0 <;> simp_all, fun h => Nat.mul_pos ht h⟩
  simp [this]
abbrev sp_k15_law (kl : Kl) : FSpec := FS (α := List Int × R) 1 [] (fun a => [a.2]) (fun a => Scr kl a.1 a.2 ∧ a.1.length ≤ 63) (fun _ r _ => r = (.sh, .bl true)) noExc
def b1_k15_law (kl : Kl) : WS :=
(sSeq (sAsg (wCall sp_l_line (aCons (oLoc 2) (aCons (oTmp (wC (.int 3))) (aCons (oTmp (wC (.int 6))) (aCons (oTmp (wC (.int 60))) aNil))))) (gN 4))
(sSeq (sAsg (wCall sp_l_of (aCons (oLoc 2) (aCons (oTmp (wN fLst (aCons (oTmp (wC (.int 1))) (aCons (oTmp (wC (.int 1))) (aCons (oTmp (wC (.int 7))) (aCons (oTmp (wC (.int 12))) aNil)))))) aNil))) (gN 5))
(sSeq (sAsg (wN fTupOf (aCons (oTmp (wComp fSeq (aCons (oLoc 4) aNil) (gN 6) wYes (w2 fMul (oLoc 5) (oLoc 6)) [6])) aNil)) (gN 4))
(sSeq (sPar [7, 8] (aCons (oTmp (wN fSum (aCons (oLoc 4) aNil))) (aCons (oTmp (w2 fAdd (oTmp (wC (.int 1))) (oTmp (wCall sp_l_take (aCons (oLoc 2) (aCons (oTmp (wN (fLenK kl) (aCons (oLoc 4) aNil))) aNil)))))) aNil)))
(sSeq (sAsg (wCall sp_l_places (aCons (oLoc 2) (aCons (oTmp (wCall sp_l_split (aCons (oLoc 2) (aCons (oTmp (wN fMax (aCons (oLoc 7) (aCons (oLoc 8) aNil)))) (aCons (oLoc 8) aNil))))) (aCons (oTmp (w2 fSub (oTmp (wN (fLenK kl) (aCons (oLoc 4) aNil))) (oLoc 8))) aNil)))) (gN 9))
(sSeq (sAsg (wN fLst (aCons (oTmp (wVar 4)) (aCons (oTmp (wVar 9)) (aCons (oTmp (wCall sp_k15_changed (aCons (oLoc 2) (aCons (oLoc 4) aNil)))) (aCons (oTmp (wCall sp_k15_changed (aCons (oLoc 2) (aCons (oLoc 4) aNil)))) aNil))))) (gN 10))
(sSeq (sExpr (wMut 10 D.isLst mAppend (aCons (oTmp (wCall sp_k15_changed (aCons (oLoc 2) (aCons (oTmp (w2 (fIxK kl) (oLoc 10) (oTmp (w1 fNeg (oTmp (wC (.int 1))))))) aNil)))) aNil)))
(sIf (wNotT (wTV (wN fAll (aCons (oTmp (wComp fSeq (aCons (oLoc 10) aNil) (gN 11) wYes (wAndE (wCall sp_k15_right (aCons (oLoc 4) (aCons (oLoc 11) aNil))) (wCall sp_k15_right (aCons (oLoc 11) (aCons (oLoc 11) aNil)))) [11])) aNil))))
(sRet (wC (.bl false)))
sNext))))))))
def b2_k15_law (kl : Kl) : WS :=
(sSeq (sAsg (wCall (sp_l_box kl) (aCons (oLoc 0) (aCons (oLoc 1) aNil))) (gN 2))
(sFor fRange1 (aCons (oTmp (wC (.int 12))) aNil) (gN 3)
(b1_k15_law kl)))
def w_k15_law (kl : Kl) : WS :=
(sSeq (sFor fRange1 (aCons (oTmp (w2 fAdd (oTmp (wC (.int 1))) (oTmp (wN fMin (aCons (oTmp (wC (.int 4))) (aCons (oTmp (wN (fLenK kl) (aCons (oLoc 0) aNil))) aNil)))))) aNil) (gN 1)
(b2_k15_law kl))
(sRet (wC (.bl true))))
theorem k15_turn (kl : Kl) {s0 s1 s3 t4 t5 t7 t8 t9 t10 : Slot} (f4 : free t4) (f5 : free t5) (f7 : free t7) (f8 : free t8) (f9 : free t9) (f10 : free t10) {d : D} {c : Nat} (hb : BoxOk c d) (hc : c < 2 ^ 170) (ed : Ed)
    (hN : ∀ d' t4 t5 t7 t8 t9 t10, free t4 → free t5 → free t7 → free t8 → free t9 → free t10 → BoxOk (c + 1000) d' → ed.nx [s0, s1, .dat .ow d', s3, t4, t5, .un, t7, t8, t9, t10, .un]) :
    b1_k15_law kl [s0, s1, .dat .ow d, s3, t4, t5, .un, t7, t8, t9, t10, .un] ed := by
  have hz := sizeLine_big
  unfold b1_k15_law
  walk_at "wp"
  refine call_line hb (by omega) (by omega) fun xs d1 hpos hhn hlen hbd hb1 => ?_
  walk_at "wp"
  refine ⟨f4, call_ofI (fun i => 0 < i ∧ i ≤ 12) (by decide) hb1 (by omega) fun t d2 ht hb2 => ?_⟩
  obtain ⟨t, rfl⟩ := Int.eq_ofNat_of_zero_le (Int.le_of_lt ht.1)
  walk_at "wp"
  refine ⟨f5, compNT (fun x => t * x) (by omega) (fun n hn acc N ha hN => ?_) ?_⟩
  · have := hbd n hn
    walk_at "wp"
    refine ⟨mulOkI (by omega), ha, ?_⟩
    have e : ((t : Int) * (n : Int)) = ((t * n : Nat) : Int) := by simp
    rw [e]; exact hN
  have hn2 := hn_mul (t := t) (by omega) xs
  have hsum : (xs.map fun x => t * x).sum ≤ 12 * (8 * 4160) := by
    rw [sum_mul]
    have h1 : xs.sum ≤ xs.length * 4160 := by
      have : ∀ zs : List Nat, (∀ x ∈ zs, x ≤ 4160) → zs.sum ≤ zs.length * 4160 := by
        intro zs
        induction zs with
        | nil => intro _; simp
        | cons z zs ih => intro h; rw [List.sum_cons, List.length_cons, Nat.succ_mul]; have := ih fun w hw => h w (List.mem_cons_of_mem _ hw); have := h z List.mem_cons_self; omega
      exact this xs fun x hx => by have := hbd x hx; omega
    have h2 : xs.length * 4160 ≤ 8 * 4160 := Nat.mul_le_mul_right _ (by omega)
    exact Nat.mul_le_mul (by omega) (by omega)
  have hsp : 0 < (xs.map fun x => t * x).sum := by
    obtain ⟨x, hx, h0⟩ := hpos
    exact sum_of_pos ⟨t * x, List.mem_map.mpr ⟨x, hx, rfl⟩, Nat.mul_pos (by omega) h0⟩
  have hml : (xs.map fun x => t * x).length = xs.length := List.length_map _
  have hx0 : 0 < xs.length := by
    obtain ⟨x, hx, _⟩ := hpos
    exact List.length_pos_of_mem hx
  generalize (xs.map fun x => t * x) = ws at *
  walk_at "wp"
  refine call_take hb2 (by omega) (by omega) fun q d3 hq hb3 => ?_
  walk_at "wp"
  refine ⟨f7, f8, call_split hb3 (by omega) (by omega) fun fs d4 h1 h2 h3 hb4 => ?_⟩
  walk_at "wp"
  refine call_places (ys := fs) (m := .sh) (am := .lst (natsD fs)) rfl (.inl rfl) hb4 (by omega) (by omega) fun us d5 hp hb5 => ?_
  have hul : us.length = ws.length := by
    have := hp.length_eq
    rw [List.length_append, List.length_replicate] at this
    omega
  have hus : (us.sum : Int) = max (ws.sum : Int) (1 + (q : Int)) := by
    rw [sum_perm hp, sum_zeros]; exact h2
  walk_at "wp"
  refine ⟨f9, call0 (d5, ws, c + 500) rfl rfl ⟨hb5.mono (by simp only; omega), hsp, by simp only; omega, by simp only; omega, by simp only; omega⟩ ?_⟩
  rintro _ _ ⟨as, d6, rfl, rfl, hb6, a1, a2, a3⟩
  simp only at hb6 a2 a3
  walk_at "wp"
  refine call0 (d6, ws, c + 520) rfl rfl ⟨hb6, hsp, by simp only; omega, by simp only; omega, by simp only; omega⟩ ?_
  rintro _ _ ⟨bs, d7, rfl, rfl, hb7, b1, b2, b3⟩
  simp only at hb7 b2 b3
  have at4 : ∀ a b c' e : D, atI [a, b, c', e] (-1) = some e := fun _ _ _ _ => rfl
  simp only [↓d_sSeq, ↓d_sAsg, ↓d_sExpr, ↓d_sRet, ↓d_sRetN, ↓d_sNext, ↓d_sAug, ↓d_sPar, ↓d_sBreak, ↓d_sCont, ↓d_wTB, ↓d_wTV, ↓d_wNotT, ↓d_wNotE, ↓d_w1, ↓d_w2, ↓d_wN, ↓d_wC, ↓d_wVar, ↓d_wMove, ↓d_wMut, ↓d_wSl, ↓d_oTmp, ↓d_oLoc, ↓d_aNil, ↓d_aCons, ↓d_aRev, res, ress, callA, takeA, nextR, backA, putB, ↓d_gN, ↓d_gTp, ↓d_gsCons, ↓d_gsNil, ↓d_gIx, canSet_eq, free_un, free_sh1, free_ow1, free_fr1, okR, okM, ↓d_pNone, ↓d_pInt, ↓d_fAdd, ↓d_fSub, ↓d_fMul, ↓d_fDiv, ↓d_fMod, ↓d_fPow, ↓d_fShr, ↓d_fShl, ↓d_fAnd, ↓d_fNeg, ↓d_fCmp, ↓d_fLt, ↓d_fLe, ↓d_fGt, ↓d_fGe, ↓d_fIs, ↓d_fIx, ↓d_fIxK, ↓d_fLen, ↓d_fLenK, ↓d_fAbs, ↓fIntOf_bl, ↓fIntOf_int, b2i_true, b2i_false, ↓d_fAddI, ↓d_fMulI, ↓d_fLst, ↓d_fTup, shs, fSeq, fZip, fRev, ↓d_mAppend, ↓d_mExtend, ↓d_mPop0, ↓d_mPopAt, D.isLst, locs, lend, lendI, lent, home, homeI, back1, wipeR, unwipe, ↓d_homeD, wYes, noX, Option.toList, List.getElem?_cons_zero, List.getElem?_cons_succ, List.set_cons_zero, List.set_cons_succ, List.length_cons, List.length_nil, List.headD_cons, List.headD_nil, List.tail_cons, List.tail_nil, List.reverse_cons, List.reverse_nil, List.nil_append, List.cons_append, Nat.zero_add, Bool.false_eq_true, if_true, if_false, ite_true, ite_false, List.contains_cons, List.contains_nil, initR, edOf, outsOf, slotR, List.map_cons, List.map_nil, List.replicate_succ, List.replicate_zero, List.append_nil, Nat.reduceAdd, Nat.reduceSub, Nat.reduceMul, FS_pm, FS_ar, Mo.own, sI, sD, nv, iv, ↓d_fListOf, ↓d_fTupOf, ↓d_parW1, ↓d_parW2, ↓d_sRaise, ↓sIf_eq, ↓wIf_eq, ↓wAndT_eq, ↓wOrT_eq, ↓wAndE_eq, ↓wOrE_eq, ↓sFor_eq, ↓wComp_eq, ↓wCall_eq, ↓sWhile_eq, ↓turnW_eq, brP_true, brP_false, true_and, and_true, pair_eta, atI_0, atI_1, atI_2, atI_3, natsD_cons, natsD_nil, decide_true, decide_false, Bool.not_true, Bool.not_false, Bool.true_xor, Bool.false_xor, Bool.xor_self, few_eq, few_lt, PowOk_iff, Nat.reduceLeDiff, Int.reduceLE, Int.reduceLT, Int.reduceAbs, Int.reduceMul, Int.reduceAdd, Int.reduceSub, Int.reduceNeg, Int.reduceDiv, Int.reduceMod, ↓fEq_int, ↓fEq_str, ↓fEq_bl, ↓fMax2, ↓fMin2, rowD, natsD_len, Nat.reducePow, Nat.reduceLT, Int.reduceToNat, Int.reducePow, and_self, Int.zero_add, List.getD_cons_zero, List.getD_cons_succ, ne_shfr, ne_owfr, ne_bofr, ne_lnfr, Int.toNat_natCast, Nat.one_mul, Nat.reduceBEq, reduceIte, ↓reduceIte, ↓wChain_eq, ↓d_fIsi, ↓d_fRevL, ↓d_fRgL, ↓d_fRgT, tyD, isiB, String.reduceBEq, Bool.or_true, Bool.true_or, Bool.or_false, Bool.false_or, Bool.and_true, Bool.true_and, Bool.and_false, Bool.false_and, ↓fEq_row, ↓fEq_nats, ↓fEq_nats0, rng_nats, ↓fSum_row, ↓fSum_nats, at4]
  refine ⟨f10, call0 (d7, bs, c + 540) rfl rfl ⟨hb7, b1, by simp only; omega, by simp only; omega, by simp only; omega⟩ ?_⟩
  rintro _ _ ⟨es, d8, rfl, rfl, hb8, e1, e2, e3⟩
  simp only at hb8 e2 e3
  walk_at "wp"
  have fit : ∀ zs : List Nat, 0 < zs.sum → zs.length ≤ 100 → zs.sum < 2 ^ 160 → Fit ws zs ∧ Fit zs zs := fun zs z0 z1 z2 => by
    have bz : ∀ x ∈ zs, x < 2 ^ 200 := fun x hx => by have := mem_le_sum hx; omega
    have bw : ∀ x ∈ ws, x < 2 ^ 200 := fun x hx => by have := mem_le_sum hx; omega
    exact ⟨⟨gcd_of_sum hsp, gcd_of_sum z0, by omega, by omega, bw, bz, fun _ _ _ => by omega⟩, ⟨gcd_of_sum z0, gcd_of_sum z0, by omega, by omega, bz, bz, fun h => absurd rfl h⟩⟩
  have all : ∀ zs ∈ [ws, us, as, bs, es], Fit ws zs ∧ Fit zs zs := by
    simp only [List.mem_cons, List.not_mem_nil, or_false]
    rintro zs (rfl | rfl | rfl | rfl | rfl)
    · exact fit _ hsp (by omega) (by omega)
    · exact fit _ (by omega) (by omega) (by omega)
    · exact fit _ a1 (by omega) (by omega)
    · exact fit _ b1 (by omega) (by omega)
    · exact fit _ e1 (by omega) (by omega)
  refine compP (fun _ => some (.bl true)) (items := rowsD [ws, us, as, bs, es]) rfl (few (n := 5) (by decide)) (fun x acc N hx ha hN => ?_) ?_
  · obtain ⟨zs, hz', rfl⟩ := List.mem_map.mp hx
    obtain ⟨F1, F2⟩ := all zs hz'
    walk_at "wp"
    refine call0 (ws, zs) rfl rfl F1 ?_
    rintro _ _ ⟨rfl, rfl⟩
    walk_at "wp"
    refine call0 (zs, zs) rfl rfl F2 ?_
    rintro _ _ ⟨rfl, rfl⟩
    walk_at "wp"
    exact ⟨ha, hN⟩
  walk_at "wp"
  refine fAll_yes (fun x hx => ?_) ?_
  · obtain ⟨_, _, h⟩ := List.mem_filterMap.mp hx
    exact (Option.some.inj h).symm
  walk_at "wp"
  exact hN _ _ _ _ _ _ _ trivial trivial trivial trivial trivial trivial (hb8.mono (by omega))
theorem k15_main (kl : Kl) {ns : List Int} {r : R} (hs : Scr kl ns r) (k : Int) (hk : 0 ≤ k ∧ k ≤ 5) (ed : Ed) (hN : ∀ ts : List Slot, ed.nx (slotR r :: ts)) :
    @ForP fRange1 [(.sh, .int k)] [] [slotR r, .un, .un, .un, .un, .un, .un, .un, .un, .un, .un, .un] ⟨gN 1, b2_k15_law kl, ed⟩ := by
  refine forP (fun i ρ => ∃ t1 t2 t3 t4 t5 t7 t8 t9 t10, ρ = [slotR r, t1, t2, t3, t4, t5, .un, t7, t8, t9, t10, .un] ∧ free t1 ∧ free t2 ∧ free t3 ∧ free t4 ∧ free t5 ∧ free t7 ∧ free t8 ∧ free t9 ∧ free t10) (range1 (j := k) (by omega)) ⟨.un, .un, .un, .un, .un, .un, .un, .un, .un, rfl, trivial, trivial, trivial, trivial, trivial, trivial, trivial, trivial, trivial⟩ ?_ ?_
  · rintro j dj _ N hj ⟨t1, t2, t3, t4, t5, t7, t8, t9, t10, rfl, f1, f2, f3, f4, f5, f7, f8, f9, f10⟩ hN
    obtain ⟨rfl, hjn⟩ := rng_get hj
    refine ⟨canSet_of rfl f1, ?_⟩
    unfold b2_k15_law
    walk_at "wk"
    refine seqP fun K hK => ?_
    refine law_box hs (by omega) f2 fun d hb => hK _ ?_
    clear hK K
    walk_at "wp"
    refine forP (fun i ρ => ∃ d t3 t4 t5 t7 t8 t9 t10, ρ = [slotR r, sI j, .dat .ow d, t3, t4, t5, .un, t7, t8, t9, t10, .un] ∧ free t3 ∧ free t4 ∧ free t5 ∧ free t7 ∧ free t8 ∧ free t9 ∧ free t10 ∧ BoxOk (1000 * i) d) (range1 (j := 12) (by decide)) ⟨d, t3, t4, t5, t7, t8, t9, t10, rfl, f3, f4, f5, f7, f8, f9, f10, hb⟩ ?_ ?_
    · rintro j2 dj _ N hj ⟨d, t3, t4, t5, t7, t8, t9, t10, rfl, f3, f4, f5, f7, f8, f9, f10, hb⟩ hN
      obtain ⟨rfl, hjn2⟩ := rng_get hj
      have hjn2 : j2 < 12 := hjn2
      refine ⟨canSet_of rfl f3, ?_⟩
      refine k15_turn kl f4 f5 f7 f8 f9 f10 hb (by omega) _ fun d' t4 t5 t7 t8 t9 t10 f4 f5 f7 f8 f9 f10 hb' => ?_
      exact hN _ ⟨d', _, _, _, _, _, _, _, rfl, trivial, f4, f5, f7, f8, f9, f10, hb'.mono (by omega)⟩
    · rintro ρ ⟨d, t3, t4, t5, t7, t8, t9, t10, rfl, f3, f4, f5, f7, f8, f9, f10, hb⟩
      walk_at "wp"
      exact hN _ ⟨_, _, _, _, _, _, _, _, _, rfl, trivial, trivial, f3, f4, f5, f7, f8, f9, f10⟩
  · rintro ρ ⟨t1, t2, t3, t4, t5, t7, t8, t9, t10, rfl, _⟩
    exact hN _
theorem vc_k15_law (kl : Kl) : VC (sp_k15_law kl) 12 (w_k15_law kl) := FS.vc fun ⟨ns, r⟩ hp Q E hQ => by
  obtain ⟨hs, hl⟩ := hp
  simp only at hs hl hQ
  have main := fun k hk => k15_main kl hs k hk { nx := fun ρ => sRet (wC (.bl true)) ρ (edOf [r] Q E), rt := (edOf [r] Q E).rt, bk := (edOf [r] Q E).bk, ct := (edOf [r] Q E).ct, ex := (edOf [r] Q E).ex } (fun _ => hQ _ _ rfl)
  rcases hs with rfl | ⟨a, rfl, e⟩
  · unfold w_k15_law
    simp only [↓d_sSeq, ↓d_sAsg, ↓d_sExpr, ↓d_sRet, ↓d_sRetN, ↓d_sNext, ↓d_sAug, ↓d_sPar, ↓d_sBreak, ↓d_sCont, ↓d_wTB, ↓d_wTV, ↓d_wNotT, ↓d_wNotE, ↓d_w1, ↓d_w2, ↓d_wN, ↓d_wC, ↓d_wVar, ↓d_wMove, ↓d_wMut, ↓d_wSl, ↓d_oTmp, ↓d_oLoc, ↓d_aNil, ↓d_aCons, ↓d_aRev, res, ress, callA, takeA, nextR, backA, putB, ↓d_gN, ↓d_gTp, ↓d_gsCons, ↓d_gsNil, ↓d_gIx, canSet_eq, free_un, free_sh1, free_ow1, free_fr1, okR, okM, ↓d_pNone, ↓d_pInt, ↓d_fAdd, ↓d_fSub, ↓d_fMul, ↓d_fDiv, ↓d_fMod, ↓d_fPow, ↓d_fShr, ↓d_fShl, ↓d_fAnd, ↓d_fNeg, ↓d_fCmp, ↓d_fLt, ↓d_fLe, ↓d_fGt, ↓d_fGe, ↓d_fIs, ↓d_fIx, ↓d_fIxK, ↓d_fLen, ↓d_fLenK, ↓d_fAbs, ↓fIntOf_bl, ↓fIntOf_int, b2i_true, b2i_false, ↓d_fAddI, ↓d_fMulI, ↓d_fLst, ↓d_fTup, shs, fSeq, fZip, fRev, ↓d_mAppend, ↓d_mExtend, ↓d_mPop0, ↓d_mPopAt, D.isLst, locs, lend, lendI, lent, home, homeI, back1, wipeR, unwipe, ↓d_homeD, wYes, noX, Option.toList, List.getElem?_cons_zero, List.getElem?_cons_succ, List.set_cons_zero, List.set_cons_succ, List.length_cons, List.length_nil, List.headD_cons, List.headD_nil, List.tail_cons, List.tail_nil, List.reverse_cons, List.reverse_nil, List.nil_append, List.cons_append, Nat.zero_add, Bool.false_eq_true, if_true, if_false, ite_true, ite_false, List.contains_cons, List.contains_nil, initR, edOf, outsOf, slotR, List.map_cons, List.map_nil, List.replicate_succ, List.replicate_zero, List.append_nil, Nat.reduceAdd, Nat.reduceSub, Nat.reduceMul, FS_pm, FS_ar, Mo.own, sI, sD, nv, iv, ↓d_fListOf, ↓d_fTupOf, ↓d_parW1, ↓d_parW2, ↓d_sRaise, ↓sIf_eq, ↓wIf_eq, ↓wAndT_eq, ↓wOrT_eq, ↓wAndE_eq, ↓wOrE_eq, ↓sFor_eq, ↓wComp_eq, ↓wCall_eq, ↓sWhile_eq, ↓turnW_eq, brP_true, brP_false, true_and, and_true, pair_eta, atI_0, atI_1, atI_2, atI_3, natsD_cons, natsD_nil, decide_true, decide_false, Bool.not_true, Bool.not_false, Bool.true_xor, Bool.false_xor, Bool.xor_self, few_eq, few_lt, PowOk_iff, Nat.reduceLeDiff, Int.reduceLE, Int.reduceLT, Int.reduceAbs, Int.reduceMul, Int.reduceAdd, Int.reduceSub, Int.reduceNeg, Int.reduceDiv, Int.reduceMod, ↓fEq_int, ↓fEq_str, ↓fEq_bl, ↓fMax2, ↓fMin2, rowD, natsD_len, Nat.reducePow, Nat.reduceLT, Int.reduceToNat, Int.reducePow, and_self, Int.zero_add, List.getD_cons_zero, List.getD_cons_succ, ne_shfr, ne_owfr, ne_bofr, ne_lnfr, Int.toNat_natCast, Nat.one_mul, Nat.reduceBEq, reduceIte, ↓reduceIte, ↓wChain_eq, ↓d_fIsi, ↓d_fRevL, ↓d_fRgL, ↓d_fRgT, tyD, isiB, String.reduceBEq, Bool.or_true, Bool.true_or, Bool.or_false, Bool.false_or, Bool.and_true, Bool.true_and, Bool.and_false, Bool.false_and, ↓fEq_row, ↓fEq_nats, ↓fEq_nats0, rng_nats, ↓fSum_row, ↓fSum_nats, List.length_map]
    exact main _ (by omega)
  · unfold w_k15_law
    simp only [↓d_sSeq, ↓d_sAsg, ↓d_sExpr, ↓d_sRet, ↓d_sRetN, ↓d_sNext, ↓d_sAug, ↓d_sPar, ↓d_sBreak, ↓d_sCont, ↓d_wTB, ↓d_wTV, ↓d_wNotT, ↓d_wNotE, ↓d_w1, ↓d_w2, ↓d_wN, ↓d_wC, ↓d_wVar, ↓d_wMove, ↓d_wMut, ↓d_wSl, ↓d_oTmp, ↓d_oLoc, ↓d_aNil, ↓d_aCons, ↓d_aRev, res, ress, callA, takeA, nextR, backA, putB, ↓d_gN, ↓d_gTp, ↓d_gsCons, ↓d_gsNil, ↓d_gIx, canSet_eq, free_un, free_sh1, free_ow1, free_fr1, okR, okM, ↓d_pNone, ↓d_pInt, ↓d_fAdd, ↓d_fSub, ↓d_fMul, ↓d_fDiv, ↓d_fMod, ↓d_fPow, ↓d_fShr, ↓d_fShl, ↓d_fAnd, ↓d_fNeg, ↓d_fCmp, ↓d_fLt, ↓d_fLe, ↓d_fGt, ↓d_fGe, ↓d_fIs, ↓d_fIx, ↓d_fIxK, ↓d_fLen, ↓d_fLenK, ↓d_fAbs, ↓fIntOf_bl, ↓fIntOf_int, b2i_true, b2i_false, ↓d_fAddI, ↓d_fMulI, ↓d_fLst, ↓d_fTup, shs, fSeq, fZip, fRev, ↓d_mAppend, ↓d_mExtend, ↓d_mPop0, ↓d_mPopAt, D.isLst, locs, lend, lendI, lent, home, homeI, back1, wipeR, unwipe, ↓d_homeD, wYes, noX, Option.toList, List.getElem?_cons_zero, List.getElem?_cons_succ, List.set_cons_zero, List.set_cons_succ, List.length_cons, List.length_nil, List.headD_cons, List.headD_nil, List.tail_cons, List.tail_nil, List.reverse_cons, List.reverse_nil, List.nil_append, List.cons_append, Nat.zero_add, Bool.false_eq_true, if_true, if_false, ite_true, ite_false, List.contains_cons, List.contains_nil, initR, edOf, outsOf, slotR, List.map_cons, List.map_nil, List.replicate_succ, List.replicate_zero, List.append_nil, Nat.reduceAdd, Nat.reduceSub, Nat.reduceMul, FS_pm, FS_ar, Mo.own, sI, sD, nv, iv, ↓d_fListOf, ↓d_fTupOf, ↓d_parW1, ↓d_parW2, ↓d_sRaise, ↓sIf_eq, ↓wIf_eq, ↓wAndT_eq, ↓wOrT_eq, ↓wAndE_eq, ↓wOrE_eq, ↓sFor_eq, ↓wComp_eq, ↓wCall_eq, ↓sWhile_eq, ↓turnW_eq, brP_true, brP_false, true_and, and_true, pair_eta, atI_0, atI_1, atI_2, atI_3, natsD_cons, natsD_nil, decide_true, decide_false, Bool.not_true, Bool.not_false, Bool.true_xor, Bool.false_xor, Bool.xor_self, few_eq, few_lt, PowOk_iff, Nat.reduceLeDiff, Int.reduceLE, Int.reduceLT, Int.reduceAbs, Int.reduceMul, Int.reduceAdd, Int.reduceSub, Int.reduceNeg, Int.reduceDiv, Int.reduceMod, ↓fEq_int, ↓fEq_str, ↓fEq_bl, ↓fMax2, ↓fMin2, rowD, natsD_len, Nat.reducePow, Nat.reduceLT, Int.reduceToNat, Int.reducePow, and_self, Int.zero_add, List.getD_cons_zero, List.getD_cons_succ, ne_shfr, ne_owfr, ne_bofr, ne_lnfr, Int.toNat_natCast, Nat.one_mul, Nat.reduceBEq, reduceIte, ↓reduceIte, ↓wChain_eq, ↓d_fIsi, ↓d_fRevL, ↓d_fRgL, ↓d_fRgT, tyD, isiB, String.reduceBEq, Bool.or_true, Bool.true_or, Bool.or_false, Bool.false_or, Bool.and_true, Bool.true_and, Bool.and_false, Bool.false_and, ↓fEq_row, ↓fEq_nats, ↓fEq_nats0, rng_nats, ↓fSum_row, ↓fSum_nats, e]
    exact main _ (by omega)
end G
end
set_option Elab.async false
set_option linter.all false
set_option maxRecDepth 100000
set_option maxHeartbeats 0
namespace My
open PySem PySem.Spec PyProof.Rows L2 G
def top (i : Nat) : Stmt := PySem.Challenge.pw_matchgift_k15_clauses_broken.main.body.getD i (.Pass ⟨0, 0, 0, 0⟩)
def exl : List Str := ["TooGreat"]
def fns_greatest_part (kl : Kl) : List (Str × FEnt) := []
def glb_greatest_part : List (Str × D) := []
def nm_greatest_part : List Str := ["one", "other"]
theorem tr_greatest_part (kl : Kl) : (trN 40).ss ⟨nm_greatest_part, defScope (top 4), fns_greatest_part kl, glb_greatest_part, fun _ => true, kl, exl⟩ (defBody (top 4)) = w_greatest_part kl := by kernel_rfl
theorem sc_greatest_part : FnScope nm_greatest_part ["one", "other"] (defScope (top 4)) := ⟨rfl, rfl, rfl, by decide +kernel, rfl, by decide +kernel, by decide +kernel⟩
def fns_twos_in (kl : Kl) : List (Str × FEnt) := []
def glb_twos_in : List (Str × D) := []
def nm_twos_in : List Str := ["n", "found"]
theorem tr_twos_in (kl : Kl) : (trN 40).ss ⟨nm_twos_in, defScope (top 5), fns_twos_in kl, glb_twos_in, fun _ => true, kl, exl⟩ (defBody (top 5)) = w_twos_in kl := by kernel_rfl
theorem sc_twos_in : FnScope nm_twos_in ["n"] (defScope (top 5)) := ⟨rfl, rfl, rfl, by decide +kernel, rfl, by decide +kernel, by decide +kernel⟩
def fns_odd_part (kl : Kl) : List (Str × FEnt) := [("twos_in", ⟨sp_twos_in, ["n"], true⟩)]
def glb_odd_part : List (Str × D) := []
def nm_odd_part : List Str := ["n"]
theorem tr_odd_part (kl : Kl) : (trN 40).ss ⟨nm_odd_part, defScope (top 6), fns_odd_part kl, glb_odd_part, fun _ => true, kl, exl⟩ (defBody (top 6)) = w_odd_part kl := by kernel_rfl
theorem sc_odd_part : FnScope nm_odd_part ["n"] (defScope (top 6)) := ⟨rfl, rfl, rfl, by decide +kernel, rfl, by decide +kernel, by decide +kernel⟩
def fns_unit (kl : Kl) : List (Str × FEnt) := [("greatest_part", ⟨sp_greatest_part, ["one", "other"], true⟩)]
def glb_unit : List (Str × D) := []
def nm_unit : List Str := ["row", "found", "amount"]
theorem tr_unit (kl : Kl) : (trN 40).ss ⟨nm_unit, defScope (top 7), fns_unit kl, glb_unit, fun _ => true, kl, exl⟩ (defBody (top 7)) = w_unit kl := by kernel_rfl
theorem sc_unit : FnScope nm_unit ["row"] (defScope (top 7)) := ⟨rfl, rfl, rfl, by decide +kernel, rfl, by decide +kernel, by decide +kernel⟩
def fns_measure (kl : Kl) : List (Str × FEnt) := [("odd_part", ⟨sp_odd_part, ["n"], true⟩), ("unit", ⟨sp_unit, ["row"], true⟩)]
def glb_measure : List (Str × D) := []
def nm_measure : List Str := ["row"]
theorem tr_measure (kl : Kl) : (trN 40).ss ⟨nm_measure, defScope (top 8), fns_measure kl, glb_measure, fun _ => true, kl, exl⟩ (defBody (top 8)) = w_measure kl := by kernel_rfl
theorem sc_measure : FnScope nm_measure ["row"] (defScope (top 8)) := ⟨rfl, rfl, rfl, by decide +kernel, rfl, by decide +kernel, by decide +kernel⟩
def fns_twos (kl : Kl) : List (Str × FEnt) := [("twos_in", ⟨sp_twos_in, ["n"], true⟩), ("unit", ⟨sp_unit, ["row"], true⟩)]
def glb_twos : List (Str × D) := []
def nm_twos : List Str := ["row"]
theorem tr_twos (kl : Kl) : (trN 40).ss ⟨nm_twos, defScope (top 9), fns_twos kl, glb_twos, fun _ => true, kl, exl⟩ (defBody (top 9)) = w_twos kl := by kernel_rfl
theorem sc_twos : FnScope nm_twos ["row"] (defScope (top 9)) := ⟨rfl, rfl, rfl, by decide +kernel, rfl, by decide +kernel, by decide +kernel⟩
def fns_odd_ones (kl : Kl) : List (Str × FEnt) := [("twos", ⟨sp_twos, ["row"], true⟩), ("twos_in", ⟨sp_twos_in, ["n"], true⟩)]
def glb_odd_ones : List (Str × D) := []
def nm_odd_ones : List Str := ["row", "least", "amount"]
theorem tr_odd_ones (kl : Kl) : (trN 40).ss ⟨nm_odd_ones, defScope (top 10), fns_odd_ones kl, glb_odd_ones, fun _ => true, kl, exl⟩ (defBody (top 10)) = w_odd_ones kl := by kernel_rfl
theorem sc_odd_ones : FnScope nm_odd_ones ["row"] (defScope (top 10)) := ⟨rfl, rfl, rfl, by decide +kernel, rfl, by decide +kernel, by decide +kernel⟩
def fns_holders (kl : Kl) : List (Str × FEnt) := []
def glb_holders : List (Str × D) := []
def nm_holders : List Str := ["row", "place", "amount"]
theorem tr_holders (kl : Kl) : (trN 40).ss ⟨nm_holders, defScope (top 12), fns_holders kl, glb_holders, fun _ => true, kl, exl⟩ (defBody (top 12)) = w_holders kl := by kernel_rfl
theorem sc_holders : FnScope nm_holders ["row"] (defScope (top 12)) := ⟨rfl, rfl, rfl, by decide +kernel, rfl, by decide +kernel, by decide +kernel⟩
def fns_with_two (kl : Kl) : List (Str × FEnt) := []
def glb_with_two : List (Str × D) := []
def nm_with_two : List Str := ["row", "i", "j", "first", "second", "found"]
theorem tr_with_two (kl : Kl) : (trN 40).ss ⟨nm_with_two, defScope (top 13), fns_with_two kl, glb_with_two, fun _ => true, kl, exl⟩ (defBody (top 13)) = w_with_two kl := by kernel_rfl
theorem sc_with_two : FnScope nm_with_two ["row", "i", "j", "first", "second"] (defScope (top 13)) := ⟨rfl, rfl, rfl, by decide +kernel, rfl, by decide +kernel, by decide +kernel⟩
def fns_has_empty_got (kl : Kl) : List (Str × FEnt) := []
def glb_has_empty_got : List (Str × D) := []
def nm_has_empty_got : List Str := ["row", "other", "amount", "more"]
theorem tr_has_empty_got (kl : Kl) : (trN 40).ss ⟨nm_has_empty_got, defScope (top 17), fns_has_empty_got kl, glb_has_empty_got, fun _ => true, kl, exl⟩ (defBody (top 17)) = w_has_empty_got kl := by kernel_rfl
theorem sc_has_empty_got : FnScope nm_has_empty_got ["row", "other"] (defScope (top 17)) := ⟨rfl, rfl, rfl, by decide +kernel, rfl, by decide +kernel, by decide +kernel⟩
def fns_lasting (kl : Kl) : List (Str × FEnt) := [("has_empty_got", ⟨sp_has_empty_got, ["row", "other"], true⟩), ("holders", ⟨sp_holders, ["row"], true⟩), ("measure", ⟨sp_measure, ["row"], true⟩), ("odd_ones", ⟨sp_odd_ones, ["row"], true⟩), ("twos", ⟨sp_twos, ["row"], true⟩)]
def glb_lasting : List (Str × D) := []
def nm_lasting : List Str := ["row", "other", "found", "many", "more"]
theorem tr_lasting (kl : Kl) : (trN 40).ss ⟨nm_lasting, defScope (top 18), fns_lasting kl, glb_lasting, fun _ => true, kl, exl⟩ (defBody (top 18)) = w_lasting kl := by kernel_rfl
theorem sc_lasting : FnScope nm_lasting ["row", "other"] (defScope (top 18)) := ⟨rfl, rfl, rfl, by decide +kernel, rfl, by decide +kernel, by decide +kernel⟩
def fns_comes_of_two (kl : Kl) : List (Str × FEnt) := [("holders", ⟨sp_holders, ["row"], true⟩), ("with_two", ⟨sp_with_two, ["row", "i", "j", "first", "second"], true⟩)]
def glb_comes_of_two : List (Str × D) := []
def nm_comes_of_two : List Str := ["row", "other", "there", "here", "seen", "i", "j", "a", "b"]
theorem sc_comes_of_two : FnScope nm_comes_of_two ["row", "other"] (defScope (top 19)) := ⟨rfl, rfl, rfl, by decide +kernel, rfl, by decide +kernel, by decide +kernel⟩
def fns_broken (kl : Kl) : List (Str × FEnt) := [("comes_of_two", ⟨(spNone 2), ["row", "other"], true⟩), ("holders", ⟨sp_holders, ["row"], true⟩), ("lasting", ⟨sp_lasting, ["row", "other"], true⟩)]
def glb_broken : List (Str × D) := [("FEW", (.int 3)), ("MOST_PAIR", (.int 100000))]
def nm_broken : List Str := ["row", "other", "found"]
theorem tr_broken (kl : Kl) : (trN 40).ss ⟨nm_broken, defScope (top 20), fns_broken kl, glb_broken, fun _ => true, kl, exl⟩ (defBody (top 20)) = w_broken kl := by kernel_rfl
theorem sc_broken : FnScope nm_broken ["row", "other"] (defScope (top 20)) := ⟨rfl, rfl, rfl, by decide +kernel, rfl, by decide +kernel, by decide +kernel⟩
def fns_comes (kl : Kl) : List (Str × FEnt) := [("broken", ⟨sp_broken, ["row", "other"], true⟩)]
def glb_comes : List (Str × D) := []
def nm_comes : List Str := ["row", "other"]
theorem tr_comes (kl : Kl) : (trN 40).ss ⟨nm_comes, defScope (top 21), fns_comes kl, glb_comes, fun _ => true, kl, exl⟩ (defBody (top 21)) = w_comes kl := by kernel_rfl
theorem sc_comes : FnScope nm_comes ["row", "other"] (defScope (top 21)) := ⟨rfl, rfl, rfl, by decide +kernel, rfl, by decide +kernel, by decide +kernel⟩
def fns_l_box (kl : Kl) : List (Str × FEnt) := []
def glb_l_box : List (Str × D) := []
def nm_l_box : List Str := ["_law_script", "_law_k", "_law_cell", "_law_own"]
theorem tr_l_box (kl : Kl) : (trN 40).ss ⟨nm_l_box, defScope (top 23), fns_l_box kl, glb_l_box, fun _ => true, kl, exl⟩ (defBody (top 23)) = w_l_box kl := by kernel_rfl
theorem sc_l_box : FnScope nm_l_box ["_law_script", "_law_k"] (defScope (top 23)) := ⟨rfl, rfl, rfl, by decide +kernel, rfl, by decide +kernel, by decide +kernel⟩
def fns_l_take (kl : Kl) : List (Str × FEnt) := []
def glb_l_take : List (Str × D) := []
def nm_l_take : List Str := ["_law_box_here", "_law_many", "_law_digit", "_law_mixed"]
theorem tr_l_take (kl : Kl) : (trN 40).ss ⟨nm_l_take, defScope (top 24), fns_l_take kl, glb_l_take, fun _ => true, kl, exl⟩ (defBody (top 24)) = w_l_take kl := by kernel_rfl
theorem sc_l_take : FnScope nm_l_take ["_law_box_here", "_law_many"] (defScope (top 24)) := ⟨rfl, rfl, rfl, by decide +kernel, rfl, by decide +kernel, by decide +kernel⟩
def fns_l_of (kl : Kl) : List (Str × FEnt) := [("_law_take", ⟨sp_l_take, ["_law_box_here", "_law_many"], true⟩)]
def glb_l_of : List (Str × D) := []
def nm_l_of : List Str := ["_law_box_here", "_law_some"]
theorem tr_l_of (kl : Kl) : (trN 40).ss ⟨nm_l_of, defScope (top 25), fns_l_of kl, glb_l_of, fun _ => true, kl, exl⟩ (defBody (top 25)) = w_l_of kl := by kernel_rfl
theorem sc_l_of : FnScope nm_l_of ["_law_box_here", "_law_some"] (defScope (top 25)) := ⟨rfl, rfl, rfl, by decide +kernel, rfl, by decide +kernel, by decide +kernel⟩
def fns_l_split (kl : Kl) : List (Str × FEnt) := [("_law_take", ⟨sp_l_take, ["_law_box_here", "_law_many"], true⟩)]
def glb_l_split : List (Str × D) := []
def nm_l_split : List Str := ["_law_box_here", "_law_total", "_law_many", "_law_left", "_law_found", "_law_turn", "_law_more"]
theorem tr_l_split (kl : Kl) : (trN 40).ss ⟨nm_l_split, defScope (top 26), fns_l_split kl, glb_l_split, fun _ => true, kl, exl⟩ (defBody (top 26)) = w_l_split kl := by kernel_rfl
theorem sc_l_split : FnScope nm_l_split ["_law_box_here", "_law_total", "_law_many"] (defScope (top 26)) := ⟨rfl, rfl, rfl, by decide +kernel, rfl, by decide +kernel, by decide +kernel⟩
def fns_l_places (kl : Kl) : List (Str × FEnt) := [("_law_take", ⟨sp_l_take, ["_law_box_here", "_law_many"], true⟩)]
def glb_l_places : List (Str × D) := []
def nm_l_places : List Str := ["_law_box_here", "_law_amounts", "_law_nothing", "_law_left", "_law_found"]
theorem tr_l_places (kl : Kl) : (trN 40).ss ⟨nm_l_places, defScope (top 27), fns_l_places kl, glb_l_places, fun _ => true, kl, exl⟩ (defBody (top 27)) = w_l_places kl := by kernel_rfl
theorem sc_l_places : FnScope nm_l_places ["_law_box_here", "_law_amounts", "_law_nothing"] (defScope (top 27)) := ⟨rfl, rfl, rfl, by decide +kernel, rfl, by decide +kernel, by decide +kernel⟩
def fns_l_line (kl : Kl) : List (Str × FEnt) := [("_law_of", ⟨sp_l_of, ["_law_box_here", "_law_some"], true⟩), ("_law_places", ⟨sp_l_places, ["_law_box_here", "_law_amounts", "_law_nothing"], true⟩), ("_law_split", ⟨sp_l_split, ["_law_box_here", "_law_total", "_law_many"], true⟩), ("_law_take", ⟨sp_l_take, ["_law_box_here", "_law_many"], true⟩)]
def glb_l_line : List (Str × D) := []
def nm_l_line : List Str := ["_law_box_here", "_law_least", "_law_greatest", "_law_most", "_law_many", "_law_way", "_law_share", "_law_total", "_law_amounts", "_law_amount"]
theorem tr_l_line (kl : Kl) : (trN 40).ss ⟨nm_l_line, defScope (top 28), fns_l_line kl, glb_l_line, fun _ => true, kl, exl⟩ (defBody (top 28)) = w_l_line kl := by kernel_rfl
theorem sc_l_line : FnScope nm_l_line ["_law_box_here", "_law_least", "_law_greatest", "_law_most"] (defScope (top 28)) := ⟨rfl, rfl, rfl, by decide +kernel, rfl, by decide +kernel, by decide +kernel⟩
def fns_k15_deed (kl : Kl) : List (Str × FEnt) := []
def glb_k15_deed : List (Str × D) := []
def nm_k15_deed : List Str := ["_law_row_here", "_law_i", "_law_j", "_law_found"]
theorem tr_k15_deed (kl : Kl) : (trN 40).ss ⟨nm_k15_deed, defScope (top 29), fns_k15_deed kl, glb_k15_deed, fun _ => true, kl, exl⟩ (defBody (top 29)) = w_k15_deed kl := by kernel_rfl
theorem sc_k15_deed : FnScope nm_k15_deed ["_law_row_here", "_law_i", "_law_j"] (defScope (top 29)) := ⟨rfl, rfl, rfl, by decide +kernel, rfl, by decide +kernel, by decide +kernel⟩
def fns_k15_next (kl : Kl) : List (Str × FEnt) := [("_law_deed", ⟨sp_k15_deed, ["_law_row_here", "_law_i", "_law_j"], true⟩)]
def glb_k15_next : List (Str × D) := []
def nm_k15_next : List Str := ["_law_row_here", "_law_found", "_law_i", "_law_j"]
theorem tr_k15_next (kl : Kl) : (trN 40).ss ⟨nm_k15_next, defScope (top 30), fns_k15_next kl, glb_k15_next, fun _ => true, kl, exl⟩ (defBody (top 30)) = w_k15_next kl := by kernel_rfl
theorem sc_k15_next : FnScope nm_k15_next ["_law_row_here"] (defScope (top 30)) := ⟨rfl, rfl, rfl, by decide +kernel, rfl, by decide +kernel, by decide +kernel⟩
def fns_l_stays (kl : Kl) : List (Str × FEnt) := []
def glb_l_stays : List (Str × D) := []
def nm_l_stays : List Str := ["_law_row_here", "_law_amount", "_law_some", "_law_share", "_law_one", "_law_other", "_law_odd", "_law_many"]
theorem tr_l_stays (kl : Kl) : (trN 40).ss ⟨nm_l_stays, defScope (top 31), fns_l_stays kl, glb_l_stays, fun _ => true, kl, exl⟩ (defBody (top 31)) = w_l_stays kl := by kernel_rfl
theorem sc_l_stays : FnScope nm_l_stays ["_law_row_here"] (defScope (top 31)) := ⟨rfl, rfl, rfl, by decide +kernel, rfl, by decide +kernel, by decide +kernel⟩
def fns_k15_two_come (kl : Kl) : List (Str × FEnt) := [("_law_next", ⟨sp_k15_next, ["_law_row_here"], true⟩)]
def glb_k15_two_come : List (Str × D) := []
def nm_k15_two_come : List Str := ["_law_row_here", "_law_other", "_law_seen", "_law_waiting", "_law_there"]
theorem sc_k15_two_come : FnScope nm_k15_two_come ["_law_row_here", "_law_other"] (defScope (top 32)) := ⟨rfl, rfl, rfl, by decide +kernel, rfl, by decide +kernel, by decide +kernel⟩
def fns_k15_due (kl : Kl) : List (Str × FEnt) := [("_law_stays", ⟨sp_l_stays, ["_law_row_here"], true⟩), ("_law_two_come", ⟨(spNone 2), ["_law_row_here", "_law_other"], true⟩)]
def glb_k15_due : List (Str × D) := []
def nm_k15_due : List Str := ["_law_row_here", "_law_other", "_law_one", "_law_two", "_law_amount", "_law_alike", "_law_some", "_law_found", "_law_more", "_law_word", "_law_is_so", "_law_words"]
theorem tr_k15_due (kl : Kl) : (trN 40).ss ⟨nm_k15_due, defScope (top 33), fns_k15_due kl, glb_k15_due, fun _ => true, kl, exl⟩ (defBody (top 33)) = w_k15_due kl := by kernel_rfl
theorem sc_k15_due : FnScope nm_k15_due ["_law_row_here", "_law_other"] (defScope (top 33)) := ⟨rfl, rfl, rfl, by decide +kernel, rfl, by decide +kernel, by decide +kernel⟩
def fns_k15_changed (kl : Kl) : List (Str × FEnt) := [("_law_next", ⟨sp_k15_next, ["_law_row_here"], true⟩), ("_law_of", ⟨sp_l_of, ["_law_box_here", "_law_some"], true⟩), ("_law_take", ⟨sp_l_take, ["_law_box_here", "_law_many"], true⟩)]
def glb_k15_changed : List (Str × D) := []
def nm_k15_changed : List Str := ["_law_box_here", "_law_row_here", "_law_place", "_law_amount", "_law_way", "_law_places_here", "_law_i", "_law_j", "_law_found", "_law_part", "_law_turn", "_law_some"]
theorem tr_k15_changed (kl : Kl) : (trN 40).ss ⟨nm_k15_changed, defScope (top 34), fns_k15_changed kl, glb_k15_changed, fun _ => true, kl, exl⟩ (defBody (top 34)) = w_k15_changed kl := by kernel_rfl
theorem sc_k15_changed : FnScope nm_k15_changed ["_law_box_here", "_law_row_here"] (defScope (top 34)) := ⟨rfl, rfl, rfl, by decide +kernel, rfl, by decide +kernel, by decide +kernel⟩
def fns_k15_right (kl : Kl) : List (Str × FEnt) := [("_law_due", ⟨sp_k15_due, ["_law_row_here", "_law_other"], true⟩), ("broken", ⟨sp_broken, ["row", "other"], true⟩), ("comes", ⟨sp_comes, ["row", "other"], true⟩)]
def glb_k15_right : List (Str × D) := []
def nm_k15_right : List Str := ["_law_row_here", "_law_other", "_law_due_here", "_law_kept"]
theorem tr_k15_right (kl : Kl) : (trN 40).ss ⟨nm_k15_right, defScope (top 35), fns_k15_right kl, glb_k15_right, fun _ => true, kl, exl⟩ (defBody (top 35)) = w_k15_right kl := by kernel_rfl
theorem sc_k15_right : FnScope nm_k15_right ["_law_row_here", "_law_other"] (defScope (top 35)) := ⟨rfl, rfl, rfl, by decide +kernel, rfl, by decide +kernel, by decide +kernel⟩
def fns_k15_law (kl : Kl) : List (Str × FEnt) := [("_law_box", ⟨(sp_l_box kl), ["_law_script", "_law_k"], true⟩), ("_law_changed", ⟨sp_k15_changed, ["_law_box_here", "_law_row_here"], true⟩), ("_law_of", ⟨sp_l_of, ["_law_box_here", "_law_some"], true⟩), ("_law_places", ⟨sp_l_places, ["_law_box_here", "_law_amounts", "_law_nothing"], true⟩), ("_law_right", ⟨sp_k15_right, ["_law_row_here", "_law_other"], true⟩), ("_law_row", ⟨sp_l_line, ["_law_box_here", "_law_least", "_law_greatest", "_law_most"], true⟩), ("_law_split", ⟨sp_l_split, ["_law_box_here", "_law_total", "_law_many"], true⟩), ("_law_take", ⟨sp_l_take, ["_law_box_here", "_law_many"], true⟩)]
def glb_k15_law : List (Str × D) := []
def nm_k15_law : List Str := ["_law_script", "_law_k", "_law_box_here", "_law_turn", "_law_row_here", "_law_times", "_law_amount", "_law_total", "_law_many", "_law_free", "_law_others", "_law_other"]
theorem tr_k15_law (kl : Kl) : (trN 40).ss ⟨nm_k15_law, defScope (top 36), fns_k15_law kl, glb_k15_law, fun _ => true, kl, exl⟩ (defBody (top 36)) = w_k15_law kl := by kernel_rfl
theorem sc_k15_law : FnScope nm_k15_law ["_law_script"] (defScope (top 36)) := ⟨rfl, rfl, rfl, by decide +kernel, rfl, by decide +kernel, by decide +kernel⟩
def fn : List He.DefD := [
  ⟨("greatest_part", none), "greatest_part", "greatest_part", defArgs (top 4), defBody (top 4), defScope (top 4), [], []⟩,
  ⟨("twos_in", none), "twos_in", "twos_in", defArgs (top 5), defBody (top 5), defScope (top 5), [], []⟩,
  ⟨("odd_part", none), "odd_part", "odd_part", defArgs (top 6), defBody (top 6), defScope (top 6), [], []⟩,
  ⟨("unit", none), "unit", "unit", defArgs (top 7), defBody (top 7), defScope (top 7), [], []⟩,
  ⟨("measure", none), "measure", "measure", defArgs (top 8), defBody (top 8), defScope (top 8), [], []⟩,
  ⟨("twos", none), "twos", "twos", defArgs (top 9), defBody (top 9), defScope (top 9), [], []⟩,
  ⟨("odd_ones", none), "odd_ones", "odd_ones", defArgs (top 10), defBody (top 10), defScope (top 10), [], []⟩,
  ⟨("holders", none), "holders", "holders", defArgs (top 12), defBody (top 12), defScope (top 12), [], []⟩,
  ⟨("with_two", none), "with_two", "with_two", defArgs (top 13), defBody (top 13), defScope (top 13), [], []⟩,
  ⟨("has_empty_got", none), "has_empty_got", "has_empty_got", defArgs (top 17), defBody (top 17), defScope (top 17), [], []⟩,
  ⟨("lasting", none), "lasting", "lasting", defArgs (top 18), defBody (top 18), defScope (top 18), [], []⟩,
  ⟨("comes_of_two", none), "comes_of_two", "comes_of_two", defArgs (top 19), defBody (top 19), defScope (top 19), [], []⟩,
  ⟨("broken", none), "broken", "broken", defArgs (top 20), defBody (top 20), defScope (top 20), [], []⟩,
  ⟨("comes", none), "comes", "comes", defArgs (top 21), defBody (top 21), defScope (top 21), [], []⟩,
  ⟨("_law_box", none), "_law_box", "_law_box", defArgs (top 23), defBody (top 23), defScope (top 23), [], []⟩,
  ⟨("_law_take", none), "_law_take", "_law_take", defArgs (top 24), defBody (top 24), defScope (top 24), [], []⟩,
  ⟨("_law_of", none), "_law_of", "_law_of", defArgs (top 25), defBody (top 25), defScope (top 25), [], []⟩,
  ⟨("_law_split", none), "_law_split", "_law_split", defArgs (top 26), defBody (top 26), defScope (top 26), [], []⟩,
  ⟨("_law_places", none), "_law_places", "_law_places", defArgs (top 27), defBody (top 27), defScope (top 27), [], []⟩,
  ⟨("_law_row", none), "_law_row", "_law_row", defArgs (top 28), defBody (top 28), defScope (top 28), [], []⟩,
  ⟨("_law_deed", none), "_law_deed", "_law_deed", defArgs (top 29), defBody (top 29), defScope (top 29), [], []⟩,
  ⟨("_law_next", none), "_law_next", "_law_next", defArgs (top 30), defBody (top 30), defScope (top 30), [], []⟩,
  ⟨("_law_stays", none), "_law_stays", "_law_stays", defArgs (top 31), defBody (top 31), defScope (top 31), [], []⟩,
  ⟨("_law_two_come", none), "_law_two_come", "_law_two_come", defArgs (top 32), defBody (top 32), defScope (top 32), [], []⟩,
  ⟨("_law_due", none), "_law_due", "_law_due", defArgs (top 33), defBody (top 33), defScope (top 33), [], []⟩,
  ⟨("_law_changed", none), "_law_changed", "_law_changed", defArgs (top 34), defBody (top 34), defScope (top 34), [], []⟩,
  ⟨("_law_right", none), "_law_right", "_law_right", defArgs (top 35), defBody (top 35), defScope (top 35), [], []⟩,
  ⟨("law", none), "law", "law", defArgs (top 36), defBody (top 36), defScope (top 36), [], []⟩]
def fa : List He.Fa := [.glo "greatest_part", .glo "twos_in", .glo "odd_part", .glo "unit", .glo "measure", .glo "twos", .glo "odd_ones", .glo "holders", .glo "with_two", .glo "has_empty_got", .glo "lasting", .glo "comes_of_two", .glo "broken", .glo "comes", .glo "_law_box", .glo "_law_take", .glo "_law_of", .glo "_law_split", .glo "_law_places", .glo "_law_row", .glo "_law_deed", .glo "_law_next", .glo "_law_stays", .glo "_law_two_come", .glo "_law_due", .glo "_law_changed", .glo "_law_right", .glo "law", .free "len", .free "abs", .free "max", .free "min", .free "sum", .free "all", .free "any", .free "repr", .free "int", .free "list", .free "tuple", .free "range", .free "zip", .free "reversed", .free "enumerate", .free "sorted", .free "set", .free "dict", .free "str", .free "isinstance", .free "divmod", .free "bool", .int "FEW" (3), .int "MOST_PAIR" (100000), .glo "TooGreat", .exc "TooGreat"]
def names : List PySem.Str := (["greatest_part", "twos_in", "odd_part", "unit", "measure", "twos", "odd_ones", "holders", "with_two", "has_empty_got", "lasting", "comes_of_two", "broken", "comes", "_law_box", "_law_take", "_law_of", "_law_split", "_law_places", "_law_row", "_law_deed", "_law_next", "_law_stays", "_law_two_come", "_law_due", "_law_changed", "_law_right", "GiftError", "TooGreat", "MOST_PAIR", "FEW"] : List PySem.Str)
abbrev R : PySem.W.OpenRow := PySem.W.OpenLaw.row PySem.Challenge.rw_matchgift_k15_clauses_broken
abbrev hk : PySem.W.Hook := He.hookD 5 fa fn
def ob (s : PySem.W.SharedT) : He.AlD := He.obsDG 5 fa fn (HandSHeadRun.getT s)
theorem ob_eq (s : PySem.W.SharedT) : ob s = hk.obs s.abs := He.obsDG_eq (HandSHeadRun.getT_eq s)
theorem run (w : World) : HandSHeadRun.RunEq R (PySem.W.view R.prog [36]) hk ob 3000 names w := by
  intro os
  kernel_rfl
theorem krev {K : PySem.W.Frag} {x qual : Str} {params : Arguments} {body : List Stmt} {scope : Scope} {kws : List (Str × V)} {f : Addr} {fd : FuncData} {ps ks : List Str} (F : FunD K x qual params body scope [] kws f fd)
    (h : ∀ (kV doc pm : Value) (an : Option Addr) (cdv ct : Value) (us : List Value), us.length = ps.length → bindArgs (PySem.W.fnOf x qual params body scope .none kV doc pm an cdv ct) ⟨[], ks.zip us⟩ = pure (ps.zip us.reverse)) : KRev K fd ps ks := by
  intro s us _ hl
  obtain ⟨oc, od, dV, kV, doc, pm, an, cdv, ct, osl, rfl, lk, hcd, hD, hK⟩ := F.ex
  rcases hD with ⟨_, rfl⟩ | ⟨e, _⟩
  · exact .of_eq (h kV doc pm an cdv ct us hl)
  · exact absurd rfl e
def clx (K : PySem.W.Frag) : Str → Value := fun x => .ref (He.ga K x)
section
variable {P : Program} {w : World} {K : PySem.W.Frag} {mg : Str → Option Value} {base h : Heap}
theorem blt (X : K.In h) (G : h.Ns mainGlobals mg) (c : He.SaysD fa fn K) : ∀ y ∈ bltNames, mg y = none := by
  intro y hy
  simp only [bltNames, List.mem_cons, List.not_mem_nil, or_false] at hy
  rcases hy with rfl | rfl | rfl | rfl | rfl | rfl | rfl | rfl | rfl | rfl | rfl | rfl | rfl | rfl | rfl | rfl | rfl | rfl | rfl | rfl | rfl | rfl
  · exact He.free_ok X G (c.fact 28 (f := .free "len") rfl)
  · exact He.free_ok X G (c.fact 29 (f := .free "abs") rfl)
  · exact He.free_ok X G (c.fact 30 (f := .free "max") rfl)
  · exact He.free_ok X G (c.fact 31 (f := .free "min") rfl)
  · exact He.free_ok X G (c.fact 32 (f := .free "sum") rfl)
  · exact He.free_ok X G (c.fact 33 (f := .free "all") rfl)
  · exact He.free_ok X G (c.fact 34 (f := .free "any") rfl)
  · exact He.free_ok X G (c.fact 35 (f := .free "repr") rfl)
  · exact He.free_ok X G (c.fact 36 (f := .free "int") rfl)
  · exact He.free_ok X G (c.fact 37 (f := .free "list") rfl)
  · exact He.free_ok X G (c.fact 38 (f := .free "tuple") rfl)
  · exact He.free_ok X G (c.fact 39 (f := .free "range") rfl)
  · exact He.free_ok X G (c.fact 40 (f := .free "zip") rfl)
  · exact He.free_ok X G (c.fact 41 (f := .free "reversed") rfl)
  · exact He.free_ok X G (c.fact 42 (f := .free "enumerate") rfl)
  · exact He.free_ok X G (c.fact 43 (f := .free "sorted") rfl)
  · exact He.free_ok X G (c.fact 44 (f := .free "set") rfl)
  · exact He.free_ok X G (c.fact 45 (f := .free "dict") rfl)
  · exact He.free_ok X G (c.fact 46 (f := .free "str") rfl)
  · exact He.free_ok X G (c.fact 47 (f := .free "isinstance") rfl)
  · exact He.free_ok X G (c.fact 48 (f := .free "divmod") rfl)
  · exact He.free_ok X G (c.fact 49 (f := .free "bool") rfl)
theorem exh (X : K.In h) (G : h.Ns mainGlobals mg) (c : He.SaysD fa fn K) : ∀ x ∈ exl, ExcHas K mg (clx K) x := by
  intro y hy
  simp only [exl, List.mem_cons, List.not_mem_nil, or_false] at hy
  subst hy
  · obtain ⟨h1, h2, h3, h4⟩ := He.exc_ok (c.fact 53 (f := .exc "TooGreat") rfl)
    exact ⟨He.ga K "TooGreat", rfl, He.glo_ok X G (c.fact 52 (f := .glo "TooGreat") rfl), h1, h2, h3, h4⟩
theorem ok_greatest_part (X : K.In h) (G : h.Ns mainGlobals mg) (c : He.SaysD fa fn K)  : FnAll P w K mg base (clx K) 1 "greatest_part" ⟨sp_greatest_part, ["one", "other"], true⟩ := by
  obtain ⟨fd, F⟩ := c.def_ 0 rfl
  refine def_ok (fns := fns_greatest_part (knownL K)) (glb := glb_greatest_part) F sc_greatest_part rfl (show 2 ≤ nm_greatest_part.length by decide +kernel) ?_ ?_ (blt X G c) (exh X G c) (tr_greatest_part (knownL K)) (vc_greatest_part (knownL K)) (He.glo_ok X G (c.fact 0 (f := .glo "greatest_part") rfl)) (FunD.bindsN F fun _ _ _ _ _ _ us hl => match us, hl with | [_, _], _ => rfl) (fun _ => krev F fun _ _ _ _ _ _ us hl => match us, hl with | [_, _], _ => rfl)
  · intro y e hy
    unfold fns_greatest_part at hy
    cases hy
  · intro y e hy
    unfold glb_greatest_part at hy
    cases hy
theorem ok_twos_in (X : K.In h) (G : h.Ns mainGlobals mg) (c : He.SaysD fa fn K)  : FnAll P w K mg base (clx K) 1 "twos_in" ⟨sp_twos_in, ["n"], true⟩ := by
  obtain ⟨fd, F⟩ := c.def_ 1 rfl
  refine def_ok (fns := fns_twos_in (knownL K)) (glb := glb_twos_in) F sc_twos_in rfl (show 1 ≤ nm_twos_in.length by decide +kernel) ?_ ?_ (blt X G c) (exh X G c) (tr_twos_in (knownL K)) (vc_twos_in (knownL K)) (He.glo_ok X G (c.fact 1 (f := .glo "twos_in") rfl)) (FunD.bindsN F fun _ _ _ _ _ _ us hl => match us, hl with | [_], _ => rfl) (fun _ => krev F fun _ _ _ _ _ _ us hl => match us, hl with | [_], _ => rfl)
  · intro y e hy
    unfold fns_twos_in at hy
    cases hy
  · intro y e hy
    unfold glb_twos_in at hy
    cases hy
theorem ok_holders (X : K.In h) (G : h.Ns mainGlobals mg) (c : He.SaysD fa fn K)  : FnAll P w K mg base (clx K) 1 "holders" ⟨sp_holders, ["row"], true⟩ := by
  obtain ⟨fd, F⟩ := c.def_ 7 rfl
  refine def_ok (fns := fns_holders (knownL K)) (glb := glb_holders) F sc_holders rfl (show 1 ≤ nm_holders.length by decide +kernel) ?_ ?_ (blt X G c) (exh X G c) (tr_holders (knownL K)) (vc_holders (knownL K)) (He.glo_ok X G (c.fact 7 (f := .glo "holders") rfl)) (FunD.bindsN F fun _ _ _ _ _ _ us hl => match us, hl with | [_], _ => rfl) (fun _ => krev F fun _ _ _ _ _ _ us hl => match us, hl with | [_], _ => rfl)
  · intro y e hy
    unfold fns_holders at hy
    cases hy
  · intro y e hy
    unfold glb_holders at hy
    cases hy
theorem ok_with_two (X : K.In h) (G : h.Ns mainGlobals mg) (c : He.SaysD fa fn K)  : FnAll P w K mg base (clx K) 1 "with_two" ⟨sp_with_two, ["row", "i", "j", "first", "second"], true⟩ := by
  obtain ⟨fd, F⟩ := c.def_ 8 rfl
  refine def_ok (fns := fns_with_two (knownL K)) (glb := glb_with_two) F sc_with_two rfl (show 5 ≤ nm_with_two.length by decide +kernel) ?_ ?_ (blt X G c) (exh X G c) (tr_with_two (knownL K)) (vc_with_two (knownL K)) (He.glo_ok X G (c.fact 8 (f := .glo "with_two") rfl)) (FunD.bindsN F fun _ _ _ _ _ _ us hl => match us, hl with | [_, _, _, _, _], _ => rfl) (fun _ => krev F fun _ _ _ _ _ _ us hl => match us, hl with | [_, _, _, _, _], _ => rfl)
  · intro y e hy
    unfold fns_with_two at hy
    cases hy
  · intro y e hy
    unfold glb_with_two at hy
    cases hy
theorem ok_has_empty_got (X : K.In h) (G : h.Ns mainGlobals mg) (c : He.SaysD fa fn K)  : FnAll P w K mg base (clx K) 1 "has_empty_got" ⟨sp_has_empty_got, ["row", "other"], true⟩ := by
  obtain ⟨fd, F⟩ := c.def_ 9 rfl
  refine def_ok (fns := fns_has_empty_got (knownL K)) (glb := glb_has_empty_got) F sc_has_empty_got rfl (show 2 ≤ nm_has_empty_got.length by decide +kernel) ?_ ?_ (blt X G c) (exh X G c) (tr_has_empty_got (knownL K)) (vc_has_empty_got (knownL K)) (He.glo_ok X G (c.fact 9 (f := .glo "has_empty_got") rfl)) (FunD.bindsN F fun _ _ _ _ _ _ us hl => match us, hl with | [_, _], _ => rfl) (fun _ => krev F fun _ _ _ _ _ _ us hl => match us, hl with | [_, _], _ => rfl)
  · intro y e hy
    unfold fns_has_empty_got at hy
    cases hy
  · intro y e hy
    unfold glb_has_empty_got at hy
    cases hy
theorem ok_l_box (X : K.In h) (G : h.Ns mainGlobals mg) (c : He.SaysD fa fn K)  : FnAll P w K mg base (clx K) 1 "_law_box" ⟨(sp_l_box (knownL K)), ["_law_script", "_law_k"], true⟩ := by
  obtain ⟨fd, F⟩ := c.def_ 14 rfl
  refine def_ok (fns := fns_l_box (knownL K)) (glb := glb_l_box) F sc_l_box rfl (show 2 ≤ nm_l_box.length by decide +kernel) ?_ ?_ (blt X G c) (exh X G c) (tr_l_box (knownL K)) (vc_l_box (knownL K)) (He.glo_ok X G (c.fact 14 (f := .glo "_law_box") rfl)) (FunD.bindsN F fun _ _ _ _ _ _ us hl => match us, hl with | [_, _], _ => rfl) (fun _ => krev F fun _ _ _ _ _ _ us hl => match us, hl with | [_, _], _ => rfl)
  · intro y e hy
    unfold fns_l_box at hy
    cases hy
  · intro y e hy
    unfold glb_l_box at hy
    cases hy
theorem ok_l_take (X : K.In h) (G : h.Ns mainGlobals mg) (c : He.SaysD fa fn K)  : FnAll P w K mg base (clx K) 1 "_law_take" ⟨sp_l_take, ["_law_box_here", "_law_many"], true⟩ := by
  obtain ⟨fd, F⟩ := c.def_ 15 rfl
  refine def_ok (fns := fns_l_take (knownL K)) (glb := glb_l_take) F sc_l_take rfl (show 2 ≤ nm_l_take.length by decide +kernel) ?_ ?_ (blt X G c) (exh X G c) (tr_l_take (knownL K)) (vc_l_take (knownL K)) (He.glo_ok X G (c.fact 15 (f := .glo "_law_take") rfl)) (FunD.bindsN F fun _ _ _ _ _ _ us hl => match us, hl with | [_, _], _ => rfl) (fun _ => krev F fun _ _ _ _ _ _ us hl => match us, hl with | [_, _], _ => rfl)
  · intro y e hy
    unfold fns_l_take at hy
    cases hy
  · intro y e hy
    unfold glb_l_take at hy
    cases hy
theorem ok_k15_deed (X : K.In h) (G : h.Ns mainGlobals mg) (c : He.SaysD fa fn K)  : FnAll P w K mg base (clx K) 1 "_law_deed" ⟨sp_k15_deed, ["_law_row_here", "_law_i", "_law_j"], true⟩ := by
  obtain ⟨fd, F⟩ := c.def_ 20 rfl
  refine def_ok (fns := fns_k15_deed (knownL K)) (glb := glb_k15_deed) F sc_k15_deed rfl (show 3 ≤ nm_k15_deed.length by decide +kernel) ?_ ?_ (blt X G c) (exh X G c) (tr_k15_deed (knownL K)) (vc_k15_deed (knownL K)) (He.glo_ok X G (c.fact 20 (f := .glo "_law_deed") rfl)) (FunD.bindsN F fun _ _ _ _ _ _ us hl => match us, hl with | [_, _, _], _ => rfl) (fun _ => krev F fun _ _ _ _ _ _ us hl => match us, hl with | [_, _, _], _ => rfl)
  · intro y e hy
    unfold fns_k15_deed at hy
    cases hy
  · intro y e hy
    unfold glb_k15_deed at hy
    cases hy
theorem ok_l_stays (X : K.In h) (G : h.Ns mainGlobals mg) (c : He.SaysD fa fn K)  : FnAll P w K mg base (clx K) 1 "_law_stays" ⟨sp_l_stays, ["_law_row_here"], true⟩ := by
  obtain ⟨fd, F⟩ := c.def_ 22 rfl
  refine def_ok (fns := fns_l_stays (knownL K)) (glb := glb_l_stays) F sc_l_stays rfl (show 1 ≤ nm_l_stays.length by decide +kernel) ?_ ?_ (blt X G c) (exh X G c) (tr_l_stays (knownL K)) (vc_l_stays (knownL K)) (He.glo_ok X G (c.fact 22 (f := .glo "_law_stays") rfl)) (FunD.bindsN F fun _ _ _ _ _ _ us hl => match us, hl with | [_], _ => rfl) (fun _ => krev F fun _ _ _ _ _ _ us hl => match us, hl with | [_], _ => rfl)
  · intro y e hy
    unfold fns_l_stays at hy
    cases hy
  · intro y e hy
    unfold glb_l_stays at hy
    cases hy
theorem ok_odd_part (X : K.In h) (G : h.Ns mainGlobals mg) (c : He.SaysD fa fn K) (F_twos_in : FnAll P w K mg base (clx K) 1 "twos_in" ⟨sp_twos_in, ["n"], true⟩) : FnAll P w K mg base (clx K) 2 "odd_part" ⟨sp_odd_part, ["n"], true⟩ := by
  obtain ⟨fd, F⟩ := c.def_ 2 rfl
  refine def_ok (fns := fns_odd_part (knownL K)) (glb := glb_odd_part) F sc_odd_part rfl (show 1 ≤ nm_odd_part.length by decide +kernel) ?_ ?_ (blt X G c) (exh X G c) (tr_odd_part (knownL K)) (vc_odd_part (knownL K)) (He.glo_ok X G (c.fact 2 (f := .glo "odd_part") rfl)) (FunD.bindsN F fun _ _ _ _ _ _ us hl => match us, hl with | [_], _ => rfl) (fun _ => krev F fun _ _ _ _ _ _ us hl => match us, hl with | [_], _ => rfl)
  · intro y e hy
    unfold fns_odd_part at hy
    simp only [List.lookup] at hy
    split at hy
    · rename_i q; have q := eq_of_beq q; subst q; cases hy; exact F_twos_in.mono (by decide)
    cases hy
  · intro y e hy
    unfold glb_odd_part at hy
    cases hy
theorem ok_unit (X : K.In h) (G : h.Ns mainGlobals mg) (c : He.SaysD fa fn K) (F_greatest_part : FnAll P w K mg base (clx K) 1 "greatest_part" ⟨sp_greatest_part, ["one", "other"], true⟩) : FnAll P w K mg base (clx K) 2 "unit" ⟨sp_unit, ["row"], true⟩ := by
  obtain ⟨fd, F⟩ := c.def_ 3 rfl
  refine def_ok (fns := fns_unit (knownL K)) (glb := glb_unit) F sc_unit rfl (show 1 ≤ nm_unit.length by decide +kernel) ?_ ?_ (blt X G c) (exh X G c) (tr_unit (knownL K)) (vc_unit (knownL K)) (He.glo_ok X G (c.fact 3 (f := .glo "unit") rfl)) (FunD.bindsN F fun _ _ _ _ _ _ us hl => match us, hl with | [_], _ => rfl) (fun _ => krev F fun _ _ _ _ _ _ us hl => match us, hl with | [_], _ => rfl)
  · intro y e hy
    unfold fns_unit at hy
    simp only [List.lookup] at hy
    split at hy
    · rename_i q; have q := eq_of_beq q; subst q; cases hy; exact F_greatest_part.mono (by decide)
    cases hy
  · intro y e hy
    unfold glb_unit at hy
    cases hy
theorem ok_comes_of_two (X : K.In h) (G : h.Ns mainGlobals mg) (c : He.SaysD fa fn K) (F_holders : FnAll P w K mg base (clx K) 1 "holders" ⟨sp_holders, ["row"], true⟩) (F_with_two : FnAll P w K mg base (clx K) 1 "with_two" ⟨sp_with_two, ["row", "i", "j", "first", "second"], true⟩) : FnAll P w K mg base (clx K) 2 "comes_of_two" ⟨(spNone 2), ["row", "other"], true⟩ := by
  obtain ⟨fd, F⟩ := c.def_ 11 rfl
  refine def_ok (fns := fns_comes_of_two (knownL K)) (glb := glb_comes_of_two) F sc_comes_of_two rfl (show 2 ≤ nm_comes_of_two.length by decide +kernel) ?_ ?_ (blt X G c) (exh X G c) (n := 40) rfl vcNone (He.glo_ok X G (c.fact 11 (f := .glo "comes_of_two") rfl)) (FunD.bindsN F fun _ _ _ _ _ _ us hl => match us, hl with | [_, _], _ => rfl) (fun _ => krev F fun _ _ _ _ _ _ us hl => match us, hl with | [_, _], _ => rfl)
  · intro y e hy
    unfold fns_comes_of_two at hy
    simp only [List.lookup] at hy
    split at hy
    · rename_i q; have q := eq_of_beq q; subst q; cases hy; exact F_holders.mono (by decide)
    split at hy
    · rename_i q; have q := eq_of_beq q; subst q; cases hy; exact F_with_two.mono (by decide)
    cases hy
  · intro y e hy
    unfold glb_comes_of_two at hy
    cases hy
theorem ok_l_of (X : K.In h) (G : h.Ns mainGlobals mg) (c : He.SaysD fa fn K) (F_l_take : FnAll P w K mg base (clx K) 1 "_law_take" ⟨sp_l_take, ["_law_box_here", "_law_many"], true⟩) : FnAll P w K mg base (clx K) 2 "_law_of" ⟨sp_l_of, ["_law_box_here", "_law_some"], true⟩ := by
  obtain ⟨fd, F⟩ := c.def_ 16 rfl
  refine def_ok (fns := fns_l_of (knownL K)) (glb := glb_l_of) F sc_l_of rfl (show 2 ≤ nm_l_of.length by decide +kernel) ?_ ?_ (blt X G c) (exh X G c) (tr_l_of (knownL K)) (vc_l_of (knownL K)) (He.glo_ok X G (c.fact 16 (f := .glo "_law_of") rfl)) (FunD.bindsN F fun _ _ _ _ _ _ us hl => match us, hl with | [_, _], _ => rfl) (fun _ => krev F fun _ _ _ _ _ _ us hl => match us, hl with | [_, _], _ => rfl)
  · intro y e hy
    unfold fns_l_of at hy
    simp only [List.lookup] at hy
    split at hy
    · rename_i q; have q := eq_of_beq q; subst q; cases hy; exact F_l_take.mono (by decide)
    cases hy
  · intro y e hy
    unfold glb_l_of at hy
    cases hy
theorem ok_l_split (X : K.In h) (G : h.Ns mainGlobals mg) (c : He.SaysD fa fn K) (F_l_take : FnAll P w K mg base (clx K) 1 "_law_take" ⟨sp_l_take, ["_law_box_here", "_law_many"], true⟩) : FnAll P w K mg base (clx K) 2 "_law_split" ⟨sp_l_split, ["_law_box_here", "_law_total", "_law_many"], true⟩ := by
  obtain ⟨fd, F⟩ := c.def_ 17 rfl
  refine def_ok (fns := fns_l_split (knownL K)) (glb := glb_l_split) F sc_l_split rfl (show 3 ≤ nm_l_split.length by decide +kernel) ?_ ?_ (blt X G c) (exh X G c) (tr_l_split (knownL K)) (vc_l_split (knownL K)) (He.glo_ok X G (c.fact 17 (f := .glo "_law_split") rfl)) (FunD.bindsN F fun _ _ _ _ _ _ us hl => match us, hl with | [_, _, _], _ => rfl) (fun _ => krev F fun _ _ _ _ _ _ us hl => match us, hl with | [_, _, _], _ => rfl)
  · intro y e hy
    unfold fns_l_split at hy
    simp only [List.lookup] at hy
    split at hy
    · rename_i q; have q := eq_of_beq q; subst q; cases hy; exact F_l_take.mono (by decide)
    cases hy
  · intro y e hy
    unfold glb_l_split at hy
    cases hy
theorem ok_l_places (X : K.In h) (G : h.Ns mainGlobals mg) (c : He.SaysD fa fn K) (F_l_take : FnAll P w K mg base (clx K) 1 "_law_take" ⟨sp_l_take, ["_law_box_here", "_law_many"], true⟩) : FnAll P w K mg base (clx K) 2 "_law_places" ⟨sp_l_places, ["_law_box_here", "_law_amounts", "_law_nothing"], true⟩ := by
  obtain ⟨fd, F⟩ := c.def_ 18 rfl
  refine def_ok (fns := fns_l_places (knownL K)) (glb := glb_l_places) F sc_l_places rfl (show 3 ≤ nm_l_places.length by decide +kernel) ?_ ?_ (blt X G c) (exh X G c) (tr_l_places (knownL K)) (vc_l_places (knownL K)) (He.glo_ok X G (c.fact 18 (f := .glo "_law_places") rfl)) (FunD.bindsN F fun _ _ _ _ _ _ us hl => match us, hl with | [_, _, _], _ => rfl) (fun _ => krev F fun _ _ _ _ _ _ us hl => match us, hl with | [_, _, _], _ => rfl)
  · intro y e hy
    unfold fns_l_places at hy
    simp only [List.lookup] at hy
    split at hy
    · rename_i q; have q := eq_of_beq q; subst q; cases hy; exact F_l_take.mono (by decide)
    cases hy
  · intro y e hy
    unfold glb_l_places at hy
    cases hy
theorem ok_k15_next (X : K.In h) (G : h.Ns mainGlobals mg) (c : He.SaysD fa fn K) (F_k15_deed : FnAll P w K mg base (clx K) 1 "_law_deed" ⟨sp_k15_deed, ["_law_row_here", "_law_i", "_law_j"], true⟩) : FnAll P w K mg base (clx K) 2 "_law_next" ⟨sp_k15_next, ["_law_row_here"], true⟩ := by
  obtain ⟨fd, F⟩ := c.def_ 21 rfl
  refine def_ok (fns := fns_k15_next (knownL K)) (glb := glb_k15_next) F sc_k15_next rfl (show 1 ≤ nm_k15_next.length by decide +kernel) ?_ ?_ (blt X G c) (exh X G c) (tr_k15_next (knownL K)) (vc_k15_next (knownL K)) (He.glo_ok X G (c.fact 21 (f := .glo "_law_next") rfl)) (FunD.bindsN F fun _ _ _ _ _ _ us hl => match us, hl with | [_], _ => rfl) (fun _ => krev F fun _ _ _ _ _ _ us hl => match us, hl with | [_], _ => rfl)
  · intro y e hy
    unfold fns_k15_next at hy
    simp only [List.lookup] at hy
    split at hy
    · rename_i q; have q := eq_of_beq q; subst q; cases hy; exact F_k15_deed.mono (by decide)
    cases hy
  · intro y e hy
    unfold glb_k15_next at hy
    cases hy
theorem ok_measure (X : K.In h) (G : h.Ns mainGlobals mg) (c : He.SaysD fa fn K) (F_odd_part : FnAll P w K mg base (clx K) 2 "odd_part" ⟨sp_odd_part, ["n"], true⟩) (F_unit : FnAll P w K mg base (clx K) 2 "unit" ⟨sp_unit, ["row"], true⟩) : FnAll P w K mg base (clx K) 3 "measure" ⟨sp_measure, ["row"], true⟩ := by
  obtain ⟨fd, F⟩ := c.def_ 4 rfl
  refine def_ok (fns := fns_measure (knownL K)) (glb := glb_measure) F sc_measure rfl (show 1 ≤ nm_measure.length by decide +kernel) ?_ ?_ (blt X G c) (exh X G c) (tr_measure (knownL K)) (vc_measure (knownL K)) (He.glo_ok X G (c.fact 4 (f := .glo "measure") rfl)) (FunD.bindsN F fun _ _ _ _ _ _ us hl => match us, hl with | [_], _ => rfl) (fun _ => krev F fun _ _ _ _ _ _ us hl => match us, hl with | [_], _ => rfl)
  · intro y e hy
    unfold fns_measure at hy
    simp only [List.lookup] at hy
    split at hy
    · rename_i q; have q := eq_of_beq q; subst q; cases hy; exact F_odd_part.mono (by decide)
    split at hy
    · rename_i q; have q := eq_of_beq q; subst q; cases hy; exact F_unit.mono (by decide)
    cases hy
  · intro y e hy
    unfold glb_measure at hy
    cases hy
theorem ok_twos (X : K.In h) (G : h.Ns mainGlobals mg) (c : He.SaysD fa fn K) (F_twos_in : FnAll P w K mg base (clx K) 1 "twos_in" ⟨sp_twos_in, ["n"], true⟩) (F_unit : FnAll P w K mg base (clx K) 2 "unit" ⟨sp_unit, ["row"], true⟩) : FnAll P w K mg base (clx K) 3 "twos" ⟨sp_twos, ["row"], true⟩ := by
  obtain ⟨fd, F⟩ := c.def_ 5 rfl
  refine def_ok (fns := fns_twos (knownL K)) (glb := glb_twos) F sc_twos rfl (show 1 ≤ nm_twos.length by decide +kernel) ?_ ?_ (blt X G c) (exh X G c) (tr_twos (knownL K)) (vc_twos (knownL K)) (He.glo_ok X G (c.fact 5 (f := .glo "twos") rfl)) (FunD.bindsN F fun _ _ _ _ _ _ us hl => match us, hl with | [_], _ => rfl) (fun _ => krev F fun _ _ _ _ _ _ us hl => match us, hl with | [_], _ => rfl)
  · intro y e hy
    unfold fns_twos at hy
    simp only [List.lookup] at hy
    split at hy
    · rename_i q; have q := eq_of_beq q; subst q; cases hy; exact F_twos_in.mono (by decide)
    split at hy
    · rename_i q; have q := eq_of_beq q; subst q; cases hy; exact F_unit.mono (by decide)
    cases hy
  · intro y e hy
    unfold glb_twos at hy
    cases hy
theorem ok_l_line (X : K.In h) (G : h.Ns mainGlobals mg) (c : He.SaysD fa fn K) (F_l_of : FnAll P w K mg base (clx K) 2 "_law_of" ⟨sp_l_of, ["_law_box_here", "_law_some"], true⟩) (F_l_places : FnAll P w K mg base (clx K) 2 "_law_places" ⟨sp_l_places, ["_law_box_here", "_law_amounts", "_law_nothing"], true⟩) (F_l_split : FnAll P w K mg base (clx K) 2 "_law_split" ⟨sp_l_split, ["_law_box_here", "_law_total", "_law_many"], true⟩) (F_l_take : FnAll P w K mg base (clx K) 1 "_law_take" ⟨sp_l_take, ["_law_box_here", "_law_many"], true⟩) : FnAll P w K mg base (clx K) 3 "_law_row" ⟨sp_l_line, ["_law_box_here", "_law_least", "_law_greatest", "_law_most"], true⟩ := by
  obtain ⟨fd, F⟩ := c.def_ 19 rfl
  refine def_ok (fns := fns_l_line (knownL K)) (glb := glb_l_line) F sc_l_line rfl (show 4 ≤ nm_l_line.length by decide +kernel) ?_ ?_ (blt X G c) (exh X G c) (tr_l_line (knownL K)) (vc_l_line (knownL K)) (He.glo_ok X G (c.fact 19 (f := .glo "_law_row") rfl)) (FunD.bindsN F fun _ _ _ _ _ _ us hl => match us, hl with | [_, _, _, _], _ => rfl) (fun _ => krev F fun _ _ _ _ _ _ us hl => match us, hl with | [_, _, _, _], _ => rfl)
  · intro y e hy
    unfold fns_l_line at hy
    simp only [List.lookup] at hy
    split at hy
    · rename_i q; have q := eq_of_beq q; subst q; cases hy; exact F_l_of.mono (by decide)
    split at hy
    · rename_i q; have q := eq_of_beq q; subst q; cases hy; exact F_l_places.mono (by decide)
    split at hy
    · rename_i q; have q := eq_of_beq q; subst q; cases hy; exact F_l_split.mono (by decide)
    split at hy
    · rename_i q; have q := eq_of_beq q; subst q; cases hy; exact F_l_take.mono (by decide)
    cases hy
  · intro y e hy
    unfold glb_l_line at hy
    cases hy
theorem ok_k15_two_come (X : K.In h) (G : h.Ns mainGlobals mg) (c : He.SaysD fa fn K) (F_k15_next : FnAll P w K mg base (clx K) 2 "_law_next" ⟨sp_k15_next, ["_law_row_here"], true⟩) : FnAll P w K mg base (clx K) 3 "_law_two_come" ⟨(spNone 2), ["_law_row_here", "_law_other"], true⟩ := by
  obtain ⟨fd, F⟩ := c.def_ 23 rfl
  refine def_ok (fns := fns_k15_two_come (knownL K)) (glb := glb_k15_two_come) F sc_k15_two_come rfl (show 2 ≤ nm_k15_two_come.length by decide +kernel) ?_ ?_ (blt X G c) (exh X G c) (n := 40) rfl vcNone (He.glo_ok X G (c.fact 23 (f := .glo "_law_two_come") rfl)) (FunD.bindsN F fun _ _ _ _ _ _ us hl => match us, hl with | [_, _], _ => rfl) (fun _ => krev F fun _ _ _ _ _ _ us hl => match us, hl with | [_, _], _ => rfl)
  · intro y e hy
    unfold fns_k15_two_come at hy
    simp only [List.lookup] at hy
    split at hy
    · rename_i q; have q := eq_of_beq q; subst q; cases hy; exact F_k15_next.mono (by decide)
    cases hy
  · intro y e hy
    unfold glb_k15_two_come at hy
    cases hy
theorem ok_k15_changed (X : K.In h) (G : h.Ns mainGlobals mg) (c : He.SaysD fa fn K) (F_k15_next : FnAll P w K mg base (clx K) 2 "_law_next" ⟨sp_k15_next, ["_law_row_here"], true⟩) (F_l_of : FnAll P w K mg base (clx K) 2 "_law_of" ⟨sp_l_of, ["_law_box_here", "_law_some"], true⟩) (F_l_take : FnAll P w K mg base (clx K) 1 "_law_take" ⟨sp_l_take, ["_law_box_here", "_law_many"], true⟩) : FnAll P w K mg base (clx K) 3 "_law_changed" ⟨sp_k15_changed, ["_law_box_here", "_law_row_here"], true⟩ := by
  obtain ⟨fd, F⟩ := c.def_ 25 rfl
  refine def_ok (fns := fns_k15_changed (knownL K)) (glb := glb_k15_changed) F sc_k15_changed rfl (show 2 ≤ nm_k15_changed.length by decide +kernel) ?_ ?_ (blt X G c) (exh X G c) (tr_k15_changed (knownL K)) (vc_k15_changed (knownL K)) (He.glo_ok X G (c.fact 25 (f := .glo "_law_changed") rfl)) (FunD.bindsN F fun _ _ _ _ _ _ us hl => match us, hl with | [_, _], _ => rfl) (fun _ => krev F fun _ _ _ _ _ _ us hl => match us, hl with | [_, _], _ => rfl)
  · intro y e hy
    unfold fns_k15_changed at hy
    simp only [List.lookup] at hy
    split at hy
    · rename_i q; have q := eq_of_beq q; subst q; cases hy; exact F_k15_next.mono (by decide)
    split at hy
    · rename_i q; have q := eq_of_beq q; subst q; cases hy; exact F_l_of.mono (by decide)
    split at hy
    · rename_i q; have q := eq_of_beq q; subst q; cases hy; exact F_l_take.mono (by decide)
    cases hy
  · intro y e hy
    unfold glb_k15_changed at hy
    cases hy
theorem ok_odd_ones (X : K.In h) (G : h.Ns mainGlobals mg) (c : He.SaysD fa fn K) (F_twos : FnAll P w K mg base (clx K) 3 "twos" ⟨sp_twos, ["row"], true⟩) (F_twos_in : FnAll P w K mg base (clx K) 1 "twos_in" ⟨sp_twos_in, ["n"], true⟩) : FnAll P w K mg base (clx K) 4 "odd_ones" ⟨sp_odd_ones, ["row"], true⟩ := by
  obtain ⟨fd, F⟩ := c.def_ 6 rfl
  refine def_ok (fns := fns_odd_ones (knownL K)) (glb := glb_odd_ones) F sc_odd_ones rfl (show 1 ≤ nm_odd_ones.length by decide +kernel) ?_ ?_ (blt X G c) (exh X G c) (tr_odd_ones (knownL K)) (vc_odd_ones (knownL K)) (He.glo_ok X G (c.fact 6 (f := .glo "odd_ones") rfl)) (FunD.bindsN F fun _ _ _ _ _ _ us hl => match us, hl with | [_], _ => rfl) (fun _ => krev F fun _ _ _ _ _ _ us hl => match us, hl with | [_], _ => rfl)
  · intro y e hy
    unfold fns_odd_ones at hy
    simp only [List.lookup] at hy
    split at hy
    · rename_i q; have q := eq_of_beq q; subst q; cases hy; exact F_twos.mono (by decide)
    split at hy
    · rename_i q; have q := eq_of_beq q; subst q; cases hy; exact F_twos_in.mono (by decide)
    cases hy
  · intro y e hy
    unfold glb_odd_ones at hy
    cases hy
theorem ok_k15_due (X : K.In h) (G : h.Ns mainGlobals mg) (c : He.SaysD fa fn K) (F_l_stays : FnAll P w K mg base (clx K) 1 "_law_stays" ⟨sp_l_stays, ["_law_row_here"], true⟩) (F_k15_two_come : FnAll P w K mg base (clx K) 3 "_law_two_come" ⟨(spNone 2), ["_law_row_here", "_law_other"], true⟩) : FnAll P w K mg base (clx K) 4 "_law_due" ⟨sp_k15_due, ["_law_row_here", "_law_other"], true⟩ := by
  obtain ⟨fd, F⟩ := c.def_ 24 rfl
  refine def_ok (fns := fns_k15_due (knownL K)) (glb := glb_k15_due) F sc_k15_due rfl (show 2 ≤ nm_k15_due.length by decide +kernel) ?_ ?_ (blt X G c) (exh X G c) (tr_k15_due (knownL K)) (vc_k15_due (knownL K)) (He.glo_ok X G (c.fact 24 (f := .glo "_law_due") rfl)) (FunD.bindsN F fun _ _ _ _ _ _ us hl => match us, hl with | [_, _], _ => rfl) (fun _ => krev F fun _ _ _ _ _ _ us hl => match us, hl with | [_, _], _ => rfl)
  · intro y e hy
    unfold fns_k15_due at hy
    simp only [List.lookup] at hy
    split at hy
    · rename_i q; have q := eq_of_beq q; subst q; cases hy; exact F_l_stays.mono (by decide)
    split at hy
    · rename_i q; have q := eq_of_beq q; subst q; cases hy; exact F_k15_two_come.mono (by decide)
    cases hy
  · intro y e hy
    unfold glb_k15_due at hy
    cases hy
theorem ok_lasting (X : K.In h) (G : h.Ns mainGlobals mg) (c : He.SaysD fa fn K) (F_has_empty_got : FnAll P w K mg base (clx K) 1 "has_empty_got" ⟨sp_has_empty_got, ["row", "other"], true⟩) (F_holders : FnAll P w K mg base (clx K) 1 "holders" ⟨sp_holders, ["row"], true⟩) (F_measure : FnAll P w K mg base (clx K) 3 "measure" ⟨sp_measure, ["row"], true⟩) (F_odd_ones : FnAll P w K mg base (clx K) 4 "odd_ones" ⟨sp_odd_ones, ["row"], true⟩) (F_twos : FnAll P w K mg base (clx K) 3 "twos" ⟨sp_twos, ["row"], true⟩) : FnAll P w K mg base (clx K) 5 "lasting" ⟨sp_lasting, ["row", "other"], true⟩ := by
  obtain ⟨fd, F⟩ := c.def_ 10 rfl
  refine def_ok (fns := fns_lasting (knownL K)) (glb := glb_lasting) F sc_lasting rfl (show 2 ≤ nm_lasting.length by decide +kernel) ?_ ?_ (blt X G c) (exh X G c) (tr_lasting (knownL K)) (vc_lasting (knownL K)) (He.glo_ok X G (c.fact 10 (f := .glo "lasting") rfl)) (FunD.bindsN F fun _ _ _ _ _ _ us hl => match us, hl with | [_, _], _ => rfl) (fun _ => krev F fun _ _ _ _ _ _ us hl => match us, hl with | [_, _], _ => rfl)
  · intro y e hy
    unfold fns_lasting at hy
    simp only [List.lookup] at hy
    split at hy
    · rename_i q; have q := eq_of_beq q; subst q; cases hy; exact F_has_empty_got.mono (by decide)
    split at hy
    · rename_i q; have q := eq_of_beq q; subst q; cases hy; exact F_holders.mono (by decide)
    split at hy
    · rename_i q; have q := eq_of_beq q; subst q; cases hy; exact F_measure.mono (by decide)
    split at hy
    · rename_i q; have q := eq_of_beq q; subst q; cases hy; exact F_odd_ones.mono (by decide)
    split at hy
    · rename_i q; have q := eq_of_beq q; subst q; cases hy; exact F_twos.mono (by decide)
    cases hy
  · intro y e hy
    unfold glb_lasting at hy
    cases hy
theorem ok_broken (X : K.In h) (G : h.Ns mainGlobals mg) (c : He.SaysD fa fn K) (F_comes_of_two : FnAll P w K mg base (clx K) 2 "comes_of_two" ⟨(spNone 2), ["row", "other"], true⟩) (F_holders : FnAll P w K mg base (clx K) 1 "holders" ⟨sp_holders, ["row"], true⟩) (F_lasting : FnAll P w K mg base (clx K) 5 "lasting" ⟨sp_lasting, ["row", "other"], true⟩) : FnAll P w K mg base (clx K) 6 "broken" ⟨sp_broken, ["row", "other"], true⟩ := by
  obtain ⟨fd, F⟩ := c.def_ 12 rfl
  refine def_ok (fns := fns_broken (knownL K)) (glb := glb_broken) F sc_broken rfl (show 2 ≤ nm_broken.length by decide +kernel) ?_ ?_ (blt X G c) (exh X G c) (tr_broken (knownL K)) (vc_broken (knownL K)) (He.glo_ok X G (c.fact 12 (f := .glo "broken") rfl)) (FunD.bindsN F fun _ _ _ _ _ _ us hl => match us, hl with | [_, _], _ => rfl) (fun _ => krev F fun _ _ _ _ _ _ us hl => match us, hl with | [_, _], _ => rfl)
  · intro y e hy
    unfold fns_broken at hy
    simp only [List.lookup] at hy
    split at hy
    · rename_i q; have q := eq_of_beq q; subst q; cases hy; exact F_comes_of_two.mono (by decide)
    split at hy
    · rename_i q; have q := eq_of_beq q; subst q; cases hy; exact F_holders.mono (by decide)
    split at hy
    · rename_i q; have q := eq_of_beq q; subst q; cases hy; exact F_lasting.mono (by decide)
    cases hy
  · intro y e hy
    unfold glb_broken at hy
    simp only [List.lookup] at hy
    split at hy
    · rename_i q; have q := eq_of_beq q; subst q; cases hy; obtain ⟨t, q⟩ := He.int_ok X G (c.fact 50 (f := .int "FEW" (3)) rfl); exact ⟨_, .int (3), q, ⟨_, rfl⟩, fun _ _ => by unfold DV; rfl⟩
    split at hy
    · rename_i q; have q := eq_of_beq q; subst q; cases hy; obtain ⟨t, q⟩ := He.int_ok X G (c.fact 51 (f := .int "MOST_PAIR" (100000)) rfl); exact ⟨_, .int (100000), q, ⟨_, rfl⟩, fun _ _ => by unfold DV; rfl⟩
    cases hy
theorem ok_comes (X : K.In h) (G : h.Ns mainGlobals mg) (c : He.SaysD fa fn K) (F_broken : FnAll P w K mg base (clx K) 6 "broken" ⟨sp_broken, ["row", "other"], true⟩) : FnAll P w K mg base (clx K) 7 "comes" ⟨sp_comes, ["row", "other"], true⟩ := by
  obtain ⟨fd, F⟩ := c.def_ 13 rfl
  refine def_ok (fns := fns_comes (knownL K)) (glb := glb_comes) F sc_comes rfl (show 2 ≤ nm_comes.length by decide +kernel) ?_ ?_ (blt X G c) (exh X G c) (tr_comes (knownL K)) (vc_comes (knownL K)) (He.glo_ok X G (c.fact 13 (f := .glo "comes") rfl)) (FunD.bindsN F fun _ _ _ _ _ _ us hl => match us, hl with | [_, _], _ => rfl) (fun _ => krev F fun _ _ _ _ _ _ us hl => match us, hl with | [_, _], _ => rfl)
  · intro y e hy
    unfold fns_comes at hy
    simp only [List.lookup] at hy
    split at hy
    · rename_i q; have q := eq_of_beq q; subst q; cases hy; exact F_broken.mono (by decide)
    cases hy
  · intro y e hy
    unfold glb_comes at hy
    cases hy
theorem ok_k15_right (X : K.In h) (G : h.Ns mainGlobals mg) (c : He.SaysD fa fn K) (F_k15_due : FnAll P w K mg base (clx K) 4 "_law_due" ⟨sp_k15_due, ["_law_row_here", "_law_other"], true⟩) (F_broken : FnAll P w K mg base (clx K) 6 "broken" ⟨sp_broken, ["row", "other"], true⟩) (F_comes : FnAll P w K mg base (clx K) 7 "comes" ⟨sp_comes, ["row", "other"], true⟩) : FnAll P w K mg base (clx K) 8 "_law_right" ⟨sp_k15_right, ["_law_row_here", "_law_other"], true⟩ := by
  obtain ⟨fd, F⟩ := c.def_ 26 rfl
  refine def_ok (fns := fns_k15_right (knownL K)) (glb := glb_k15_right) F sc_k15_right rfl (show 2 ≤ nm_k15_right.length by decide +kernel) ?_ ?_ (blt X G c) (exh X G c) (tr_k15_right (knownL K)) (vc_k15_right (knownL K)) (He.glo_ok X G (c.fact 26 (f := .glo "_law_right") rfl)) (FunD.bindsN F fun _ _ _ _ _ _ us hl => match us, hl with | [_, _], _ => rfl) (fun _ => krev F fun _ _ _ _ _ _ us hl => match us, hl with | [_, _], _ => rfl)
  · intro y e hy
    unfold fns_k15_right at hy
    simp only [List.lookup] at hy
    split at hy
    · rename_i q; have q := eq_of_beq q; subst q; cases hy; exact F_k15_due.mono (by decide)
    split at hy
    · rename_i q; have q := eq_of_beq q; subst q; cases hy; exact F_broken.mono (by decide)
    split at hy
    · rename_i q; have q := eq_of_beq q; subst q; cases hy; exact F_comes.mono (by decide)
    cases hy
  · intro y e hy
    unfold glb_k15_right at hy
    cases hy
theorem ok_k15_law {f : Addr} {fd : FuncData} (X : K.In h) (G : h.Ns mainGlobals mg) (c : He.SaysD fa fn K) (F : FunD K "law" "law" (defArgs (top 36)) (defBody (top 36)) (defScope (top 36)) [] [] f fd) (F_l_box : FnAll P w K mg base (clx K) 1 "_law_box" ⟨(sp_l_box (knownL K)), ["_law_script", "_law_k"], true⟩) (F_k15_changed : FnAll P w K mg base (clx K) 3 "_law_changed" ⟨sp_k15_changed, ["_law_box_here", "_law_row_here"], true⟩) (F_l_of : FnAll P w K mg base (clx K) 2 "_law_of" ⟨sp_l_of, ["_law_box_here", "_law_some"], true⟩) (F_l_places : FnAll P w K mg base (clx K) 2 "_law_places" ⟨sp_l_places, ["_law_box_here", "_law_amounts", "_law_nothing"], true⟩) (F_k15_right : FnAll P w K mg base (clx K) 8 "_law_right" ⟨sp_k15_right, ["_law_row_here", "_law_other"], true⟩) (F_l_line : FnAll P w K mg base (clx K) 3 "_law_row" ⟨sp_l_line, ["_law_box_here", "_law_least", "_law_greatest", "_law_most"], true⟩) (F_l_split : FnAll P w K mg base (clx K) 2 "_law_split" ⟨sp_l_split, ["_law_box_here", "_law_total", "_law_many"], true⟩) (F_l_take : FnAll P w K mg base (clx K) 1 "_law_take" ⟨sp_l_take, ["_law_box_here", "_law_many"], true⟩) : FnG P w K mg base (L2.CX P w) 9 f fd ["_law_script"] (spOf (clx K) (sp_k15_law (knownL K))) := by
  refine def_okG (e := ⟨(sp_k15_law (knownL K)), ["_law_script"], true⟩) (fns := fns_k15_law (knownL K)) (glb := glb_k15_law) F sc_k15_law rfl (show 1 ≤ nm_k15_law.length by decide +kernel) ?_ ?_ (blt X G c) (exh X G c) (tr_k15_law (knownL K)) (vc_k15_law (knownL K))
  · intro y e hy
    unfold fns_k15_law at hy
    simp only [List.lookup] at hy
    split at hy
    · rename_i q; have q := eq_of_beq q; subst q; cases hy; exact F_l_box.mono (by decide)
    split at hy
    · rename_i q; have q := eq_of_beq q; subst q; cases hy; exact F_k15_changed.mono (by decide)
    split at hy
    · rename_i q; have q := eq_of_beq q; subst q; cases hy; exact F_l_of.mono (by decide)
    split at hy
    · rename_i q; have q := eq_of_beq q; subst q; cases hy; exact F_l_places.mono (by decide)
    split at hy
    · rename_i q; have q := eq_of_beq q; subst q; cases hy; exact F_k15_right.mono (by decide)
    split at hy
    · rename_i q; have q := eq_of_beq q; subst q; cases hy; exact F_l_line.mono (by decide)
    split at hy
    · rename_i q; have q := eq_of_beq q; subst q; cases hy; exact F_l_split.mono (by decide)
    split at hy
    · rename_i q; have q := eq_of_beq q; subst q; cases hy; exact F_l_take.mono (by decide)
    cases hy
  · intro y e hy
    unfold glb_k15_law at hy
    cases hy
theorem all {f : Addr} {fd : FuncData} (X : K.In h) (G : h.Ns mainGlobals mg) (c : He.SaysD fa fn K) (F : FunD K "law" "law" (defArgs (top 36)) (defBody (top 36)) (defScope (top 36)) [] [] f fd) : FnG P w K mg base (L2.CX P w) 9 f fd ["_law_script"] (spOf (clx K) (sp_k15_law (knownL K))) := by
  have F_greatest_part := ok_greatest_part (P := P) (w := w) (base := base) X G c 
  have F_twos_in := ok_twos_in (P := P) (w := w) (base := base) X G c 
  have F_holders := ok_holders (P := P) (w := w) (base := base) X G c 
  have F_with_two := ok_with_two (P := P) (w := w) (base := base) X G c 
  have F_has_empty_got := ok_has_empty_got (P := P) (w := w) (base := base) X G c 
  have F_l_box := ok_l_box (P := P) (w := w) (base := base) X G c 
  have F_l_take := ok_l_take (P := P) (w := w) (base := base) X G c 
  have F_k15_deed := ok_k15_deed (P := P) (w := w) (base := base) X G c 
  have F_l_stays := ok_l_stays (P := P) (w := w) (base := base) X G c 
  have F_odd_part := ok_odd_part (P := P) (w := w) (base := base) X G c F_twos_in
  have F_unit := ok_unit (P := P) (w := w) (base := base) X G c F_greatest_part
  have F_comes_of_two := ok_comes_of_two (P := P) (w := w) (base := base) X G c F_holders F_with_two
  have F_l_of := ok_l_of (P := P) (w := w) (base := base) X G c F_l_take
  have F_l_split := ok_l_split (P := P) (w := w) (base := base) X G c F_l_take
  have F_l_places := ok_l_places (P := P) (w := w) (base := base) X G c F_l_take
  have F_k15_next := ok_k15_next (P := P) (w := w) (base := base) X G c F_k15_deed
  have F_measure := ok_measure (P := P) (w := w) (base := base) X G c F_odd_part F_unit
  have F_twos := ok_twos (P := P) (w := w) (base := base) X G c F_twos_in F_unit
  have F_l_line := ok_l_line (P := P) (w := w) (base := base) X G c F_l_of F_l_places F_l_split F_l_take
  have F_k15_two_come := ok_k15_two_come (P := P) (w := w) (base := base) X G c F_k15_next
  have F_k15_changed := ok_k15_changed (P := P) (w := w) (base := base) X G c F_k15_next F_l_of F_l_take
  have F_odd_ones := ok_odd_ones (P := P) (w := w) (base := base) X G c F_twos F_twos_in
  have F_k15_due := ok_k15_due (P := P) (w := w) (base := base) X G c F_l_stays F_k15_two_come
  have F_lasting := ok_lasting (P := P) (w := w) (base := base) X G c F_has_empty_got F_holders F_measure F_odd_ones F_twos
  have F_broken := ok_broken (P := P) (w := w) (base := base) X G c F_comes_of_two F_holders F_lasting
  have F_comes := ok_comes (P := P) (w := w) (base := base) X G c F_broken
  have F_k15_right := ok_k15_right (P := P) (w := w) (base := base) X G c F_k15_due F_broken F_comes
  exact ok_k15_law X G c F F_l_box F_k15_changed F_l_of F_l_places F_k15_right F_l_line F_l_split F_l_take
end
end My
open PySem PySem.W PySem.Calls PyProof.Rows in
theorem PySem.Challenge.cw_matchgift_k15_clauses_broken_holds : PySem.Challenge.rw_matchgift_k15_clauses_broken.Holds := by
  w_on; o_law
  refine HandSHeadRun.head_any (r := OpenLaw.row PySem.Challenge.rw_matchgift_k15_clauses_broken) (q := view (OpenLaw.row PySem.Challenge.rw_matchgift_k15_clauses_broken).prog [36]) (H := My.hk) (ob := My.ob) (M := 3000) (loose := My.names) (d := HandSHeadRun.topDef (OpenLaw.row PySem.Challenge.rw_matchgift_k15_clauses_broken).prog 36) (kwd := []) My.ob_eq
    (by kernel_rfl) (fun s => by kernel_rfl) My.run (by kernel_rfl) (by kernel_rfl) (by kernel_rfl) (by rfl) (by first | assumption | decide +kernel) (by decide +kernel) ⟨rfl, rfl, rfl, rfl, rfl, by decide +kernel⟩ ?hw ?hc
  case hw => w_witness2
  case hc =>
    refine G.walk_G (l := PySem.Challenge.rw_matchgift_k15_clauses_broken) (n := 63) (k := 9) (x := "_law_script") (C := fun w => L2.CX (PySem.Challenge.rw_matchgift_k15_clauses_broken).prog w) rfl (by decide) (by kernel_rfl) ⟨rfl, by decide, by decide⟩ ?F ?E
    case E =>
      rintro w H s e s' ⟨_, _, _, _, _, _, _, _, _, _, _, _, z⟩
      exact z
    case F =>
      intro w mg fa h Y G0 hmg0
      obtain ⟨K, KX, c⟩ := Y
      have hmg : mg ("law" : PySem.Str) = some (.ref fa) := by
        have e : (HandSHeadRun.topDef (OpenLaw.row PySem.Challenge.rw_matchgift_k15_clauses_broken).prog 36).name = ("law" : PySem.Str) := by kernel_rfl
        rw [← e]
        exact hmg0
      obtain ⟨fd, F⟩ := c.def_ 27 rfl
      have e := hmg.symm.trans (He.glo_ok KX G0 (c.fact 27 (f := .glo "law") rfl))
      cases e
      have b := L2.FunD.bindsA (ps := ["_law_script"]) F fun _ _ _ _ _ _ us hl => match us, hl with | [_], _ => rfl
      refine ⟨K, fd, G.spOf (My.clx K) (G.sp_k15_law (G.knownL K)), KX, fun s v => b s [v] rfl, fun H a ns hl hO hS => G.law_sp (S := (G.sp_k15_law (G.knownL K))) rfl (G.FSpec.mono _) (fun ns r hl hs => ⟨(ns, r), rfl, ⟨hs, hl⟩, fun _ _ z => by rw [z], fun _ _ z => z.elim⟩) H a ns hl hO hS, fun base Kb Gb => ?_⟩
      exact My.all (P := (PySem.Challenge.rw_matchgift_k15_clauses_broken).prog) KX G0 c F
