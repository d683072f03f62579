import PyProof.Rows.All
import Wide.All
import OpenK.AllK
import Wide.FinOn
import PySem.Challenge.RW_holebook_k08_what_a_text_tells
import HandS.ForMost
import HandS.ForExc
import HandS.IsInst
import HandS.Wide
import HandS.TupAny
import HandS.Deep
import HandS.Zip
import PyProof.NoPylong
import HandS.More
import HandS.EndBits
import HandS.Dict
import HandS.Conv
import KE.KEqNest
import HandS.ExcCtx
import HandS.ExcIs
import HandS.HotCalls
import HandS.Style
import HandS.Text
import HandS.Steps
import HandS.Iter
import PyProof.ReprReads
import PyProof.ReprRoads
import HandS.ExcInit
import HandS.ExcInitHot
import HandS.ExcField
import OpenK.KCls
import KE.KExcIs
import HandS.ExcOwn
set_option Elab.async false
set_option linter.all false
set_option maxRecDepth 100000
set_option maxHeartbeats 4000000
set_option maxRecDepth 100000
namespace DL
open PySem PySem.Spec PyProof.Rows L2
/-! ### data -/
inductive D where
  | non | bl (b : Bool) | int (i : Int) | str (s : Str)
  | tup (xs : List D) | lst (xs : List D) | dct (kvs : List (Key × D)) | ins (c : Nat) (fs : List (Str × D))
  /-- the script: a list that is only read -/
  | scr (xs : List D)
instance : Inhabited D := ⟨.non⟩
inductive R (α : Type) where
  | ok (a : α) | ex (c : Nat) (p : D)
abbrev EnvD := List (Option D)
/-- the classes' addresses; the written part -/
structure CM where
  c : Nat → Addr
  K : PySem.W.Frag
/-- a list of the written part -/
def KL (K : PySem.W.Frag) (a : Addr) (xs : List V) : Prop :=
  ∃ (o : Obj) (its : Array Value) (n : Nat), K.lookup a = some o ∧ o.cls = .type "list" ∧ o.dict = none ∧ o.data = .seq its n ∧ its.size ≤ sizeLine ∧ Vals xs its.toList
/-- a list that nothing writes -/
def SqF (K : PySem.W.Frag) (H : Hp) (a : Addr) (xs : List V) : Prop := (∃ o, H a = some (.frz o (.lst xs))) ∨ KL K a xs
def atomV : D → Option V
  | .non => some .non
  | .bl b => some (.bl b)
  | .int i => some (.int i)
  | .str s => some (.str s)
  | _ => none
/-- values that stand for data; the mutable objects in them, in order -/
inductive RpL (cm : CM) (H : Hp) : List V → List D → List Addr → Prop
  | nil : RpL cm H [] [] []
  | atom {v d vs ds f} : atomV d = some v → RpL cm H vs ds f → RpL cm H (v :: vs) (d :: ds) f
  | tup {a us es f1 vs ds f2} : Rd H a (.tup us) → RpL cm H us es f1 → RpL cm H vs ds f2 → RpL cm H (.ref a :: vs) (.tup es :: ds) (f1 ++ f2)
  | lst {a us es f1 vs ds f2} : Rd H a (.lst us) → RpL cm H us es f1 → RpL cm H vs ds f2 → RpL cm H (.ref a :: vs) (.lst es :: ds) (a :: (f1 ++ f2))
  | scr {a us es vs ds f2} : SqF cm.K H a us → RpL cm H us es [] → RpL cm H vs ds f2 → RpL cm H (.ref a :: vs) (.scr es :: ds) f2
  | dct {a f1 vs ds f2} {ks : List (Key × V)} {kvs : List (Key × D)} : Rd H a (.dK ks) → ks.map (·.1) = kvs.map (·.1) → RpL cm H (ks.map (·.2)) (kvs.map (·.2)) f1 → RpL cm H vs ds f2 → RpL cm H (.ref a :: vs) (.dct kvs :: ds) (a :: (f1 ++ f2))
  | ins {a f1 vs ds f2 c dx} {gs : List (Str × V)} {fs : List (Str × D)} : Rd H a (.ins (cm.c c) dx gs) → gs.map (·.1) = fs.map (·.1) → RpL cm H (gs.map (·.2)) (fs.map (·.2)) f1 → RpL cm H vs ds f2 → RpL cm H (.ref a :: vs) (.ins c fs :: ds) (a :: (f1 ++ f2))
section
variable {cm : CM} {H H' : Hp}
theorem Rd.some {H : Hp} {a : Addr} {u : HO} (h : Rd H a u) : H a ≠ none := by
  rcases h with h | ⟨o, h⟩ <;> rw [h] <;> intro z <;> cases z
theorem RpL.trk {vs ds f} (h : RpL cm H vs ds f) : ∀ a ∈ f, H a ≠ none := by
  induction h with
  | nil => intro a h; cases h
  | atom _ _ ih => exact ih
  | tup r _ _ i1 i2 =>
    intro b hb
    rcases List.mem_append.mp hb with hb | hb
    · exact i1 b hb
    · exact i2 b hb
  | lst r _ _ i1 i2 =>
    intro b hb
    rcases List.mem_cons.mp hb with rfl | hb
    · exact Rd.some r
    rcases List.mem_append.mp hb with hb | hb
    · exact i1 b hb
    · exact i2 b hb
  | scr _ _ _ _ i2 => exact i2
  | dct r _ _ _ i1 i2 =>
    intro b hb
    rcases List.mem_cons.mp hb with rfl | hb
    · exact Rd.some r
    rcases List.mem_append.mp hb with hb | hb
    · exact i1 b hb
    · exact i2 b hb
  | ins r _ _ _ i1 i2 =>
    intro b hb
    rcases List.mem_cons.mp hb with rfl | hb
    · exact Rd.some r
    rcases List.mem_append.mp hb with hb | hb
    · exact i1 b hb
    · exact i2 b hb
theorem RpL.keep {vs ds f} (h : RpL cm H vs ds f) (k : ∀ a u, a ∈ f → Rd H a u → (∀ o w, u ≠ .frz o w) → Rd H' a u) (t : ∀ a us, Rd H a (.tup us) → Rd H' a (.tup us)) (q : ∀ a o us, H a = some (.frz o (.lst us)) → H' a = some (.frz o (.lst us))) : RpL cm H' vs ds f := by
  induction h with
  | nil => exact .nil
  | atom e _ ih => exact .atom e (ih k)
  | tup r _ _ i1 i2 => exact .tup (t _ _ r) (i1 fun a u ha => k a u (List.mem_append_left _ ha)) (i2 fun a u ha => k a u (List.mem_append_right _ ha))
  | lst r _ _ i1 i2 => exact .lst (k _ _ List.mem_cons_self r (fun _ _ z => nomatch z)) (i1 fun a u ha => k a u (List.mem_cons_of_mem _ (List.mem_append_left _ ha))) (i2 fun a u ha => k a u (List.mem_cons_of_mem _ (List.mem_append_right _ ha)))
  | scr r _ _ i1 i2 => exact .scr (r.imp (fun ⟨o, z⟩ => ⟨o, q _ _ _ z⟩) id) (i1 fun a u ha => by cases ha) (i2 k)
  | dct r e _ _ i1 i2 => exact .dct (k _ _ List.mem_cons_self r (fun _ _ z => nomatch z)) e (i1 fun a u ha => k a u (List.mem_cons_of_mem _ (List.mem_append_left _ ha))) (i2 fun a u ha => k a u (List.mem_cons_of_mem _ (List.mem_append_right _ ha)))
  | ins r e _ _ i1 i2 => exact .ins (k _ _ List.mem_cons_self r (fun _ _ z => nomatch z)) e (i1 fun a u ha => k a u (List.mem_cons_of_mem _ (List.mem_append_left _ ha))) (i2 fun a u ha => k a u (List.mem_cons_of_mem _ (List.mem_append_right _ ha)))
theorem Same.rd (e : Same H H') {a u} (h : Rd H a u) : Rd H' a u := by
  rcases h with h | ⟨o, h⟩
  · exact .inl (e _ _ h)
  · exact .inr ⟨o, e _ _ h⟩
theorem RpL.same {vs ds f} (h : RpL cm H vs ds f) (e : Same H H') : RpL cm H' vs ds f := h.keep (fun _ _ _ r _ => Same.rd e r) (fun _ _ r => Same.rd e r) fun _ _ _ r => e _ _ r
theorem RpL.append {vs ds f us es g} (h : RpL cm H vs ds f) (h2 : RpL cm H us es g) : RpL cm H (vs ++ us) (ds ++ es) (f ++ g) := by
  induction h with
  | nil => exact h2
  | atom e _ ih => exact .atom e ih
  | tup r a _ _ i2 => rw [List.append_assoc]; exact .tup r a i2
  | lst r a _ _ i2 => have := RpL.lst r a i2; rw [← List.append_assoc] at this; exact this
  | scr r a _ _ i2 => exact RpL.scr r a i2
  | dct r e a _ _ i2 => have := RpL.dct r e a i2; rw [← List.append_assoc] at this; exact this
  | ins r e a _ _ i2 => have := RpL.ins r e a i2; rw [← List.append_assoc] at this; exact this
theorem RpL.length {vs ds f} (h : RpL cm H vs ds f) : vs.length = ds.length := by
  induction h <;> simp_all
theorem RpL.split {v vs d ds f} (h : RpL cm H (v :: vs) (d :: ds) f) : ∃ f1 f2, f = f1 ++ f2 ∧ RpL cm H [v] [d] f1 ∧ RpL cm H vs ds f2 := by
  cases h with
  | atom e h => exact ⟨[], _, rfl, .atom e .nil, h⟩
  | @tup _ _ _ f1 _ _ f2 r a h => exact ⟨f1, f2, rfl, by have := RpL.tup r a RpL.nil; rwa [List.append_nil] at this, h⟩
  | @lst x _ _ f1 _ _ f2 r a h => exact ⟨x :: f1, f2, rfl, by have := RpL.lst r a RpL.nil; rwa [List.append_nil] at this, h⟩
  | scr r a h => exact ⟨[], _, rfl, RpL.scr r a RpL.nil, h⟩
  | @dct x f1 _ _ f2 _ _ r e a h => exact ⟨x :: f1, f2, rfl, by have := RpL.dct r e a RpL.nil; rwa [List.append_nil] at this, h⟩
  | @ins x f1 _ _ f2 _ _ _ _ r e a h => exact ⟨x :: f1, f2, rfl, by have := RpL.ins r e a RpL.nil; rwa [List.append_nil] at this, h⟩
theorem RpL.cons1 {v vs d ds f1 f2} (h : RpL cm H [v] [d] f1) (h2 : RpL cm H vs ds f2) : RpL cm H (v :: vs) (d :: ds) (f1 ++ f2) := h.append h2
theorem RpL.nil_of {vs f} (h : RpL cm H vs [] f) : vs = [] ∧ f = [] := by cases h; exact ⟨rfl, rfl⟩
theorem RpL.cons_of {vs d ds f} (h : RpL cm H vs (d :: ds) f) : ∃ v vs' f1 f2, vs = v :: vs' ∧ f = f1 ++ f2 ∧ RpL cm H [v] [d] f1 ∧ RpL cm H vs' ds f2 := by
  have e := h.length
  cases vs with
  | nil => cases e
  | cons v vs' =>
    obtain ⟨f1, f2, e, a, b⟩ := h.split
    exact ⟨v, vs', f1, f2, rfl, e, a, b⟩
/-- the item at a place -/
theorem RpL.get {vs ds f} (h : RpL cm H vs ds f) : ∀ (i : Nat) (d : D), ds[i]? = some d → ∃ v g, vs[i]? = some v ∧ RpL cm H [v] [d] g ∧ (∀ a ∈ g, a ∈ f) ∧ (f.Nodup → g.Nodup) := by
  induction ds generalizing vs f with
  | nil => intro i d e; simp at e
  | cons d0 ds ih =>
    obtain ⟨v, vs', f1, f2, rfl, rfl, h1, h2⟩ := h.cons_of
    intro i d e
    cases i with
    | zero =>
      simp at e; subst e
      exact ⟨v, f1, rfl, h1, fun a ha => List.mem_append_left _ ha, fun n => (List.nodup_append.mp n).1⟩
    | succ i =>
      obtain ⟨v2, g, e2, r, s, n⟩ := ih h2 i d (by simpa using e)
      exact ⟨v2, g, by simpa using e2, r, fun a ha => List.mem_append_right _ (s a ha), fun q => n (List.nodup_append.mp q).2.1⟩
theorem RpL.none_of {vs ds f} (h : RpL cm H vs ds f) {i : Nat} (e : ds[i]? = none) : vs[i]? = none := by
  have := h.length
  rw [List.getElem?_eq_none_iff] at e ⊢
  omega
theorem RpL.lst_of {v ds f} (h : RpL cm H [v] [.lst ds] f) : ∃ a us g, v = .ref a ∧ Rd H a (.lst us) ∧ RpL cm H us ds g ∧ f = a :: g := by
  cases h with
  | atom e _ => cases e
  | lst r a h => cases h; exact ⟨_, _, _, rfl, r, a, by simp⟩
theorem RpL.scr_of {v ds f} (h : RpL cm H [v] [.scr ds] f) : ∃ a us, v = .ref a ∧ SqF cm.K H a us ∧ RpL cm H us ds [] ∧ f = [] := by
  cases h with
  | atom e _ => cases e
  | scr r a h => cases h; exact ⟨_, _, rfl, r, a, rfl⟩
theorem SqF.sq {K : PySem.W.Frag} {a xs} (h : SqF K H a xs) : SqL K H a xs := by
  rcases h with ⟨o, h⟩ | h
  · exact .inl (.inr ⟨o, h⟩)
  · exact .inr h
theorem RpL.tup_of {v ds f} (h : RpL cm H [v] [.tup ds] f) : ∃ a us, v = .ref a ∧ Rd H a (.tup us) ∧ RpL cm H us ds f := by
  cases h with
  | atom e _ => cases e
  | tup r a h => cases h; exact ⟨_, _, rfl, r, by simpa using a⟩
theorem RpL.dct_of {v kvs f} (h : RpL cm H [v] [.dct kvs] f) : ∃ a ks g, v = .ref a ∧ Rd H a (.dK ks) ∧ ks.map (·.1) = kvs.map (·.1) ∧ RpL cm H (ks.map (·.2)) (kvs.map (·.2)) g ∧ f = a :: g := by
  cases h with
  | atom e _ => cases e
  | dct r e a h => cases h; exact ⟨_, _, _, rfl, r, e, a, by simp⟩
theorem RpL.ins_of {v c fs f} (h : RpL cm H [v] [.ins c fs] f) : ∃ a dx gs g, v = .ref a ∧ Rd H a (.ins (cm.c c) dx gs) ∧ gs.map (·.1) = fs.map (·.1) ∧ RpL cm H (gs.map (·.2)) (fs.map (·.2)) g ∧ f = a :: g := by
  cases h with
  | atom e _ => cases e
  | ins r e a h => cases h; exact ⟨_, _, _, _, rfl, r, e, a, by simp⟩
theorem RpL.int_of {v i f} (h : RpL cm H [v] [.int i] f) : v = .int i ∧ f = [] := by
  cases h with
  | atom e h => cases h; cases e; exact ⟨rfl, rfl⟩
theorem RpL.bl_of {v i f} (h : RpL cm H [v] [.bl i] f) : v = .bl i ∧ f = [] := by
  cases h with
  | atom e h => cases h; cases e; exact ⟨rfl, rfl⟩
theorem RpL.str_of {v i f} (h : RpL cm H [v] [.str i] f) : v = .str i ∧ f = [] := by
  cases h with
  | atom e h => cases h; cases e; exact ⟨rfl, rfl⟩
theorem RpL.non_of {v f} (h : RpL cm H [v] [.non] f) : v = .non ∧ f = [] := by
  cases h with
  | atom e h => cases h; cases e; exact ⟨rfl, rfl⟩
theorem RpL.at {v d} (e : atomV d = some v) : RpL cm H [v] [d] [] := .atom e .nil
theorem RpL.tup1 {a us ds f} (r : Rd H a (.tup us)) (h : RpL cm H us ds f) : RpL cm H [.ref a] [.tup ds] f := by
  have := RpL.tup r h RpL.nil
  rwa [List.append_nil] at this
theorem RpL.lst1 {a us ds f} (r : Rd H a (.lst us)) (h : RpL cm H us ds f) : RpL cm H [.ref a] [.lst ds] (a :: f) := by
  have := RpL.lst r h RpL.nil
  rwa [List.append_nil] at this
theorem RpL.dct1 {a f} {ks : List (Key × V)} {kvs : List (Key × D)} (r : Rd H a (.dK ks)) (e : ks.map (·.1) = kvs.map (·.1)) (h : RpL cm H (ks.map (·.2)) (kvs.map (·.2)) f) : RpL cm H [.ref a] [.dct kvs] (a :: f) := by
  have := RpL.dct r e h RpL.nil
  rwa [List.append_nil] at this
theorem RpL.ins1 {a f c dx} {ks : List (Str × V)} {kvs : List (Str × D)} (r : Rd H a (.ins (cm.c c) dx ks)) (e : ks.map (·.1) = kvs.map (·.1)) (h : RpL cm H (ks.map (·.2)) (kvs.map (·.2)) f) : RpL cm H [.ref a] [.ins c kvs] (a :: f) := by
  have := RpL.ins r e h RpL.nil
  rwa [List.append_nil] at this
end
/-! ### data without objects that can change -/
mutual
def immD : D → Bool
  | .non => true
  | .bl _ => true
  | .int _ => true
  | .str _ => true
  | .tup xs => immL xs
  | .lst _ => false
  | .dct _ => false
  | .ins _ _ => false
  | .scr _ => true
def immL : List D → Bool
  | [] => true
  | d :: ds => immD d && immL ds
end
theorem RpL.imm {cm H vs ds f} (h : RpL cm H vs ds f) (e : immL ds = true) : f = [] := by
  induction h with
  | nil => rfl
  | atom _ _ ih => rw [immL, Bool.and_eq_true] at e; exact ih e.2
  | tup _ _ _ i1 i2 =>
    rw [immL, Bool.and_eq_true, immD] at e
    rw [i1 e.1, i2 e.2]; rfl
  | lst _ _ _ _ _ => rw [immL, Bool.and_eq_true, immD] at e; cases e.1
  | scr _ _ _ _ i2 => rw [immL, Bool.and_eq_true] at e; exact i2 e.2
  | dct _ _ _ _ _ _ => rw [immL, Bool.and_eq_true, immD] at e; cases e.1
  | ins _ _ _ _ _ _ => rw [immL, Bool.and_eq_true, immD] at e; cases e.1
theorem RpL.imm1 {cm H v d f} (h : RpL cm H [v] [d] f) (e : immD d = true) : f = [] := h.imm (by rw [immL, immL, e]; rfl)
/-! ### slots -/
inductive M where
  | dead | sh | bor | own
  deriving DecidableEq
/-- what never changes (n), and what of it may be handed on (s) -/
structure Zn where
  s : Addr → Prop
  n : Addr → Prop
def Writ : HO → Prop
  | .lst _ => True
  | .dK _ => True
  | .ins _ _ _ => True
  | _ => False
def WrA (H : Hp) (a : Addr) : Prop := ∃ u, H a = some u ∧ Writ u
/-- slots that stand for data: what is owned, in order -/
inductive Sl (cm : CM) (Z : Zn) (H : Hp) : List M → L2.St → EnvD → List Addr → Prop
  | nil : Sl cm Z H [] [] [] []
  | dead {ms σ env ow x y} : Sl cm Z H ms σ env ow → Sl cm Z H (.dead :: ms) (x :: σ) (y :: env) ow
  | sh {ms σ env ow v d f} : RpL cm H [v] [d] f → (∀ a ∈ f, Z.s a) → Sl cm Z H ms σ env ow → Sl cm Z H (.sh :: ms) (some v :: σ) (some d :: env) ow
  | bor {ms σ env ow v d f} : RpL cm H [v] [d] f → (∀ a ∈ f, Z.n a) → Sl cm Z H ms σ env ow → Sl cm Z H (.bor :: ms) (some v :: σ) (some d :: env) ow
  | own {ms σ env ow v d f} : RpL cm H [v] [d] f → Sl cm Z H ms σ env ow → Sl cm Z H (.own :: ms) (some v :: σ) (some d :: env) (f ++ ow)
structure ER (cm : CM) (ms : List M) (Z : Zn) (H : Hp) (σ : L2.St) (env : EnvD) (OW : List Addr) : Prop where
  sl : Sl cm Z H ms σ env OW
  nd : OW.Nodup
  wr : ∀ a ∈ OW, WrA H a
  dis : ∀ a ∈ OW, ¬ Z.n a
  tr : ∀ a, Z.n a → H a ≠ none
  sub : ∀ a, Z.s a → Z.n a
/-- what was owned or not there may be owned; what is not owned stands -/
structure Stp (Z : Zn) (OW : List Addr) (H : Hp) (Z' : Zn) (OW' : List Addr) (H' : Hp) : Prop where
  ow : ∀ a ∈ OW', a ∈ OW ∨ H a = none
  n1 : ∀ a, Z.n a → Z'.n a
  s1 : ∀ a, Z.s a → Z'.s a
  n2 : ∀ a, Z'.n a → Z.n a ∨ a ∈ OW ∨ H a = none
  s2 : ∀ a, Z'.s a → Z.s a ∨ a ∈ OW ∨ H a = none
  gro : ∀ a, H a ≠ none → H' a ≠ none
def Fr (OW : List Addr) (H H' : Hp) : Prop := ∀ a o, H a = some o → a ∉ OW → H' a = some o
section
variable {cm : CM} {ms : List M} {Z Z1 Z2 : Zn} {H H1 H2 H' : Hp} {σ : L2.St} {env : EnvD} {OW OW1 OW2 : List Addr}
theorem Same.gro (e : Same H H') : ∀ a, H a ≠ none → H' a ≠ none := fun a h => by
  cases q : H a with
  | none => exact absurd q h
  | some o => rw [e a o q]; intro z; cases z
theorem Stp.refl : Stp Z OW H Z OW H := ⟨fun _ h => .inl h, fun _ h => h, fun _ h => h, fun _ h => .inl h, fun _ h => .inl h, fun _ h => h⟩
theorem Stp.same (e : Same H H') : Stp Z OW H Z OW H' := ⟨fun _ h => .inl h, fun _ h => h, fun _ h => h, fun _ h => .inl h, fun _ h => .inl h, Same.gro e⟩
theorem Stp.trans (a : Stp Z OW H Z1 OW1 H1) (b : Stp Z1 OW1 H1 Z2 OW2 H2) : Stp Z OW H Z2 OW2 H2 := by
  have hn : ∀ x, H1 x = none → H x = none := fun x q => by
    cases r : H x with
    | none => rfl
    | some o => exact absurd q (a.gro x (by rw [r]; intro z; cases z))
  refine ⟨fun x hx => ?_, fun x h => b.n1 x (a.n1 x h), fun x h => b.s1 x (a.s1 x h), fun x h => ?_, fun x h => ?_, fun x h => b.gro x (a.gro x h)⟩
  · rcases b.ow x hx with h | h
    · exact a.ow x h
    · exact .inr (hn x h)
  · rcases b.n2 x h with h | h | h
    · exact a.n2 x h
    · rcases a.ow x h with h | h
      · exact .inr (.inl h)
      · exact .inr (.inr h)
    · exact .inr (.inr (hn x h))
  · rcases b.s2 x h with h | h | h
    · exact a.s2 x h
    · rcases a.ow x h with h | h
      · exact .inr (.inl h)
      · exact .inr (.inr h)
    · exact .inr (.inr (hn x h))
theorem Same.fr (e : Same H H') : Fr OW H H' := fun a o h _ => e a o h
theorem Fr.trans (a : Fr OW H H1) (s : Stp Z OW H Z1 OW1 H1) (b : Fr OW1 H1 H2) : Fr OW H H2 := fun x o h hx =>
  b x o (a x o h hx) fun z => by
    rcases s.ow x z with q | q
    · exact hx q
    · rw [h] at q; cases q
theorem Sl.same (h : Sl cm Z H ms σ env OW) (e : Same H H') : Sl cm Z H' ms σ env OW := by
  induction h with
  | nil => exact .nil
  | dead _ ih => exact .dead ih
  | sh r z _ ih => exact .sh (r.same e) z ih
  | bor r z _ ih => exact .bor (r.same e) z ih
  | own r _ ih => exact .own (r.same e) ih
theorem Sl.mono (h : Sl cm Z H ms σ env OW) (es : ∀ a, Z.s a → Z1.s a) (en : ∀ a, Z.n a → Z1.n a) : Sl cm Z1 H ms σ env OW := by
  induction h with
  | nil => exact .nil
  | dead _ ih => exact .dead ih
  | sh r z _ ih => exact .sh r (fun a ha => es a (z a ha)) ih
  | bor r z _ ih => exact .bor r (fun a ha => en a (z a ha)) ih
  | own r _ ih => exact .own r ih
theorem WrA.same {a} (w : WrA H a) (e : Same H H') : WrA H' a := by
  obtain ⟨u, q, w⟩ := w
  exact ⟨u, e _ _ q, w⟩
theorem ER.same (h : ER cm ms Z H σ env OW) (e : Same H H') : ER cm ms Z H' σ env OW :=
  ⟨h.sl.same e, h.nd, fun a ha => (h.wr a ha).same e, h.dis, fun a ha => Same.gro e a (h.tr a ha), h.sub⟩
theorem Sl.lens (h : Sl cm Z H ms σ env OW) : ms.length = σ.length ∧ ms.length = env.length := by
  induction h with
  | nil => exact ⟨rfl, rfl⟩
  | dead _ ih => exact ⟨congrArg (· + 1) ih.1, congrArg (· + 1) ih.2⟩
  | sh _ _ _ ih => exact ⟨congrArg (· + 1) ih.1, congrArg (· + 1) ih.2⟩
  | bor _ _ _ ih => exact ⟨congrArg (· + 1) ih.1, congrArg (· + 1) ih.2⟩
  | own _ _ ih => exact ⟨congrArg (· + 1) ih.1, congrArg (· + 1) ih.2⟩
theorem Sl.trk (h : Sl cm Z H ms σ env OW) : ∀ a ∈ OW, H a ≠ none := by
  induction h with
  | nil => intro a ha; cases ha
  | dead _ ih => exact ih
  | sh _ _ _ ih => exact ih
  | bor _ _ _ ih => exact ih
  | own r _ ih =>
    intro a ha
    rcases List.mem_append.mp ha with ha | ha
    · exact r.trk a ha
    · exact ih a ha
/-- a slot taken out: its data, the others -/
theorem Sl.at (h : Sl cm Z H ms σ env OW) : ∀ (i : Nat) (m : M), ms[i]? = some m → m ≠ .dead → ∃ v d f, σ[i]? = some (some v) ∧ env[i]? = some (some d) ∧ RpL cm H [v] [d] f ∧
    (m = .sh → ∀ a ∈ f, Z.s a) ∧ (m = .bor → ∀ a ∈ f, Z.n a) ∧ (m = .own → (∀ a ∈ f, a ∈ OW) ∧ (OW.Nodup → f.Nodup)) := by
  induction h with
  | nil => intro i m e; simp at e
  | dead _ ih =>
    intro i m e hm
    cases i with
    | zero => simp at e; exact absurd e.symm hm
    | succ i => simpa using ih i m (by simpa using e) hm
  | @sh _ _ _ _ v d f r z _ ih =>
    intro i m e hm
    cases i with
    | zero => simp at e; subst e; exact ⟨v, d, f, rfl, rfl, r, fun _ => z, (fun q => by cases q), fun q => by cases q⟩
    | succ i => simpa using ih i m (by simpa using e) hm
  | @bor _ _ _ _ v d f r z _ ih =>
    intro i m e hm
    cases i with
    | zero => simp at e; subst e; exact ⟨v, d, f, rfl, rfl, r, (fun q => by cases q), fun _ => z, fun q => by cases q⟩
    | succ i => simpa using ih i m (by simpa using e) hm
  | @own _ _ _ _ v d f r _ ih =>
    intro i m e hm
    cases i with
    | zero => simp at e; subst e; exact ⟨v, d, f, rfl, rfl, r, (fun q => by cases q), (fun q => by cases q), fun _ => ⟨fun a ha => List.mem_append_left _ ha, fun n => (List.nodup_append.mp n).1⟩⟩
    | succ i =>
      obtain ⟨v, d, f, a1, a2, a3, a4, a5, a6⟩ := ih i m (by simpa using e) hm
      exact ⟨v, d, f, by simpa using a1, by simpa using a2, a3, a4, a5, fun q => ⟨fun a ha => List.mem_append_right _ ((a6 q).1 a ha), fun n => (a6 q).2 (List.nodup_append.mp n).2.1⟩⟩
/-- a slot forgotten (or any slot written anew later): what else is owned -/
theorem Sl.kill (h : Sl cm Z H ms σ env OW) : ∀ (i : Nat) (x : Option V) (y : Option D), ∃ OW', Sl cm Z H (ms.set i .dead) (σ.set i x) (env.set i y) OW' ∧ (∀ a ∈ OW', a ∈ OW) ∧ (OW.Nodup → OW'.Nodup) := by
  induction h with
  | nil => intro i x y; exact ⟨[], .nil, fun _ h => h, fun h => h⟩
  | @dead ms σ env ow x0 y0 h ih =>
    intro i x y
    cases i with
    | zero => exact ⟨ow, .dead h, fun _ h => h, fun h => h⟩
    | succ i =>
      obtain ⟨o, a, b, c⟩ := ih i x y
      exact ⟨o, .dead a, b, c⟩
  | @sh ms σ env ow v d f r z h ih =>
    intro i x y
    cases i with
    | zero => exact ⟨ow, .dead h, fun _ h => h, fun h => h⟩
    | succ i =>
      obtain ⟨o, a, b, c⟩ := ih i x y
      exact ⟨o, .sh r z a, b, c⟩
  | @bor ms σ env ow v d f r z h ih =>
    intro i x y
    cases i with
    | zero => exact ⟨ow, .dead h, fun _ h => h, fun h => h⟩
    | succ i =>
      obtain ⟨o, a, b, c⟩ := ih i x y
      exact ⟨o, .bor r z a, b, c⟩
  | @own ms σ env ow v d f r h ih =>
    intro i x y
    cases i with
    | zero => exact ⟨ow, .dead h, fun _ h => List.mem_append_right _ h, fun h => (List.nodup_append.mp h).2.1⟩
    | succ i =>
      obtain ⟨o, a, b, c⟩ := ih i x y
      refine ⟨f ++ o, .own r a, fun q hq => ?_, fun hn => ?_⟩
      · rcases List.mem_append.mp hq with hq | hq
        · exact List.mem_append_left _ hq
        · exact List.mem_append_right _ (b q hq)
      · obtain ⟨n1, n2, n3⟩ := List.nodup_append.mp hn
        exact List.nodup_append.mpr ⟨n1, c n2, fun a ha b' hb => n3 a ha b' (b b' hb)⟩
/-- an owned slot moved out -/
theorem Sl.move (h : Sl cm Z H ms σ env OW) : ∀ (i : Nat), ms[i]? = some .own → ∃ v d f OW', σ[i]? = some (some v) ∧ env[i]? = some (some d) ∧ RpL cm H [v] [d] f ∧ Sl cm Z H (ms.set i .dead) σ env OW' ∧ (∀ a ∈ f, a ∈ OW) ∧ (∀ a ∈ OW', a ∈ OW) ∧
    (OW.Nodup → f.Nodup ∧ OW'.Nodup ∧ ∀ a ∈ f, a ∉ OW') := by
  induction h with
  | nil => intro i e; simp at e
  | @dead ms σ env ow x0 y0 h ih =>
    intro i e
    cases i with
    | zero => simp at e
    | succ i =>
      obtain ⟨v, d, f, o, a1, a2, a3, a4, a5, a6, a7⟩ := ih i (by simpa using e)
      exact ⟨v, d, f, o, by simpa using a1, by simpa using a2, a3, .dead a4, a5, a6, a7⟩
  | @sh ms σ env ow v d f r z h ih =>
    intro i e
    cases i with
    | zero => simp at e
    | succ i =>
      obtain ⟨v, d, f, o, a1, a2, a3, a4, a5, a6, a7⟩ := ih i (by simpa using e)
      exact ⟨v, d, f, o, by simpa using a1, by simpa using a2, a3, .sh r z a4, a5, a6, a7⟩
  | @bor ms σ env ow v d f r z h ih =>
    intro i e
    cases i with
    | zero => simp at e
    | succ i =>
      obtain ⟨v, d, f, o, a1, a2, a3, a4, a5, a6, a7⟩ := ih i (by simpa using e)
      exact ⟨v, d, f, o, by simpa using a1, by simpa using a2, a3, .bor r z a4, a5, a6, a7⟩
  | @own ms σ env ow v d f r h ih =>
    intro i e
    cases i with
    | zero => exact ⟨v, d, f, ow, rfl, rfl, r, .dead h, fun a ha => List.mem_append_left _ ha, fun a ha => List.mem_append_right _ ha, fun hn => by
        obtain ⟨n1, n2, n3⟩ := List.nodup_append.mp hn
        exact ⟨n1, n2, fun a ha hb => n3 a ha a hb rfl⟩⟩
    | succ i =>
      obtain ⟨v', d', f', o, a1, a2, a3, a4, a5, a6, a7⟩ := ih i (by simpa using e)
      refine ⟨v', d', f', f ++ o, by simpa using a1, by simpa using a2, a3, .own r a4, fun a ha => List.mem_append_right _ (a5 a ha), fun a ha => ?_, fun hn => ?_⟩
      · rcases List.mem_append.mp ha with ha | ha
        · exact List.mem_append_left _ ha
        · exact List.mem_append_right _ (a6 a ha)
      · obtain ⟨n1, n2, n3⟩ := List.nodup_append.mp hn
        obtain ⟨m1, m2, m3⟩ := a7 n2
        refine ⟨m1, List.nodup_append.mpr ⟨n1, m2, fun a ha b hb => n3 a ha b (a6 b hb)⟩, fun a ha hb => ?_⟩
        rcases List.mem_append.mp hb with hb | hb
        · exact n3 a hb a (a5 a ha) rfl
        · exact m3 a ha hb
/-- a forgotten slot written: owned -/
theorem Sl.put (h : Sl cm Z H ms σ env OW) : ∀ (i : Nat) (v : V) (d : D) (f : List Addr), ms[i]? = some .dead → RpL cm H [v] [d] f → ∃ OW', Sl cm Z H (ms.set i .own) (σ.set i (some v)) (env.set i (some d)) OW' ∧ (∀ a ∈ OW', a ∈ f ∨ a ∈ OW) ∧
    (OW.Nodup → f.Nodup → (∀ a ∈ f, a ∉ OW) → OW'.Nodup) := by
  induction h with
  | nil => intro i v d f e; simp at e
  | @dead ms σ env ow x0 y0 h ih =>
    intro i v d f e r
    cases i with
    | zero => exact ⟨f ++ ow, .own r h, fun a ha => List.mem_append.mp ha, fun n1 n2 n3 => List.nodup_append.mpr ⟨n2, n1, fun a ha b hb z => n3 a ha (z ▸ hb)⟩⟩
    | succ i =>
      obtain ⟨o, a1, a2, a3⟩ := ih i v d f (by simpa using e) r
      exact ⟨o, .dead a1, a2, a3⟩
  | @sh ms σ env ow v0 d0 f0 r0 z h ih =>
    intro i v d f e r
    cases i with
    | zero => simp at e
    | succ i =>
      obtain ⟨o, a1, a2, a3⟩ := ih i v d f (by simpa using e) r
      exact ⟨o, .sh r0 z a1, a2, a3⟩
  | @bor ms σ env ow v0 d0 f0 r0 z h ih =>
    intro i v d f e r
    cases i with
    | zero => simp at e
    | succ i =>
      obtain ⟨o, a1, a2, a3⟩ := ih i v d f (by simpa using e) r
      exact ⟨o, .bor r0 z a1, a2, a3⟩
  | @own ms σ env ow v0 d0 f0 r0 h ih =>
    intro i v d f e r
    cases i with
    | zero => simp at e
    | succ i =>
      obtain ⟨o, a1, a2, a3⟩ := ih i v d f (by simpa using e) r
      refine ⟨f0 ++ o, .own r0 a1, fun a ha => ?_, fun n1 n2 n3 => ?_⟩
      · rcases List.mem_append.mp ha with ha | ha
        · exact .inr (List.mem_append_left _ ha)
        · rcases a2 a ha with q | q
          · exact .inl q
          · exact .inr (List.mem_append_right _ q)
      · obtain ⟨m1, m2, m3⟩ := List.nodup_append.mp n1
        refine List.nodup_append.mpr ⟨m1, a3 m2 n2 (fun a ha hb => n3 a ha (List.mem_append_right _ hb)), fun a ha b hb z => ?_⟩
        subst z
        rcases a2 a hb with q | q
        · exact n3 a q (List.mem_append_left _ ha)
        · exact m3 a ha a q rfl
theorem Sl.putS (h : Sl cm Z H ms σ env OW) : ∀ (i : Nat) (v : V) (d : D) (f : List Addr), ms[i]? = some .dead → RpL cm H [v] [d] f → ((∀ a ∈ f, Z.s a) → Sl cm Z H (ms.set i .sh) (σ.set i (some v)) (env.set i (some d)) OW) ∧ ((∀ a ∈ f, Z.n a) → Sl cm Z H (ms.set i .bor) (σ.set i (some v)) (env.set i (some d)) OW) := by
  induction h with
  | nil => intro i v d f e; simp at e
  | @dead ms σ env ow x0 y0 h ih =>
    intro i v d f e r
    cases i with
    | zero => exact ⟨fun q => .sh r q h, fun q => .bor r q h⟩
    | succ i =>
      obtain ⟨a1, a2⟩ := ih i v d f (by simpa using e) r
      exact ⟨fun q => .dead (a1 q), fun q => .dead (a2 q)⟩
  | @sh ms σ env ow v0 d0 f0 r0 z h ih =>
    intro i v d f e r
    cases i with
    | zero => simp at e
    | succ i =>
      obtain ⟨a1, a2⟩ := ih i v d f (by simpa using e) r
      exact ⟨fun q => .sh r0 z (a1 q), fun q => .sh r0 z (a2 q)⟩
  | @bor ms σ env ow v0 d0 f0 r0 z h ih =>
    intro i v d f e r
    cases i with
    | zero => simp at e
    | succ i =>
      obtain ⟨a1, a2⟩ := ih i v d f (by simpa using e) r
      exact ⟨fun q => .bor r0 z (a1 q), fun q => .bor r0 z (a2 q)⟩
  | @own ms σ env ow v0 d0 f0 r0 h ih =>
    intro i v d f e r
    cases i with
    | zero => simp at e
    | succ i =>
      obtain ⟨a1, a2⟩ := ih i v d f (by simpa using e) r
      exact ⟨fun q => .own r0 (a1 q), fun q => .own r0 (a2 q)⟩
end
end DL
set_option maxRecDepth 100000
namespace DL
open PySem PySem.Spec PyProof.Rows L2
/-! ### expressions, by what they are worth -/
structure Pm where
  W : WX
  cm : CM
inductive Kd where
  | own | sh | bor | any
  deriving DecidableEq
def KdOk (k : Kd) (OW : List Addr) (H : Hp) (Z' : Zn) (OW' : List Addr) (H' : Hp) (f : List Addr) : Prop :=
  match k with
  | .own => f.Nodup ∧ ∀ a ∈ f, a ∉ OW' ∧ ¬ Z'.n a ∧ (a ∈ OW ∨ H a = none) ∧ WrA H' a
  | .sh => ∀ a ∈ f, Z'.s a
  | .bor => ∀ a ∈ f, Z'.n a
  | .any => True
def leK : Kd → Kd → Bool
  | .own, _ => true
  | .sh, .own => false
  | .sh, _ => true
  | .bor, .own => false
  | .bor, .sh => false
  | .bor, _ => true
  | .any, .any => true
  | .any, _ => false
def joinK : Kd → Kd → Kd
  | .any, _ => .any
  | _, .any => .any
  | .bor, _ => .bor
  | _, .bor => .bor
  | .sh, _ => .sh
  | _, .sh => .sh
  | .own, .own => .own
/-- what an exception's own dict holds -/
def ExD (cm : CM) (H : Hp) (dd : Option Addr) : D → Prop
  | .non => dd = none
  | .ins _ fs => ∃ (d : Addr) (gs : List (Str × V)) (g : List Addr), dd = some d ∧ H d = some (.xd gs) ∧ gs.map (·.1) = fs.map (·.1) ∧ RpL cm H (gs.map (·.2)) (fs.map (·.2)) g
  | _ => False
def PoE (p : Pm) (k : Kd) (ms' : List M) (Z : Zn) (H : Hp) (σ : L2.St) (env : EnvD) (OW : List Addr) (r : Option (R D)) (Q : VK) : Prop :=
  match r with
  | none => False
  | some (.ok d) => ∀ v H' f Z' OW', Same H H' → Stp Z OW H Z' OW' H' → ER p.cm ms' Z' H' σ env OW' → RpL p.cm H' [v] [d] f → KdOk k OW H Z' OW' H' f → Q v H'
  | some (.ex c pl) => ∀ dd H', Same H H' → ExD p.cm H' dd pl → p.W (.ref (p.cm.c c)) dd σ H'
structure XE where
  t : Pm → TE
  f : EnvD → Option (R D)
  mo : List M → Option (Kd × List M)
  ok : ∀ p ms k ms', mo ms = some (k, ms') → ∀ Z H σ env OW Q, ER p.cm ms Z H σ env OW → PoE p k ms' Z H σ env OW (f env) Q → t p σ H Q
def PoA (p : Pm) (k : Kd) (ms' : List M) (Z : Zn) (H : Hp) (σ : L2.St) (env : EnvD) (OW : List Addr) (r : Option (R (List D))) (Q : List V → Hp → Prop) : Prop :=
  match r with
  | none => False
  | some (.ok d) => ∀ v H' f Z' OW', Same H H' → Stp Z OW H Z' OW' H' → ER p.cm ms' Z' H' σ env OW' → RpL p.cm H' v d f → KdOk k OW H Z' OW' H' f → Q v H'
  | some (.ex c pl) => ∀ dd H', Same H H' → ExD p.cm H' dd pl → p.W (.ref (p.cm.c c)) dd σ H'
structure XA where
  t : Pm → TA
  f : EnvD → Option (R (List D))
  mo : List M → Option (Kd × List M)
  ok : ∀ p ms k ms', mo ms = some (k, ms') → ∀ Z H σ env OW Q, ER p.cm ms Z H σ env OW → PoA p k ms' Z H σ env OW (f env) Q → t p σ H Q
section
variable {cm : CM} {ms m1 m2 : List M} {Z Z1 Z2 : Zn} {H H0 H1 H2 H' : Hp} {σ : L2.St} {env : EnvD} {OW OW0 OW1 OW2 : List Addr} {f f1 f2 : List Addr} {k k1 k2 : Kd}
theorem hn_of (g : ∀ a, H a ≠ none → H1 a ≠ none) {x : Addr} (q : H1 x = none) : H x = none := by
  cases r : H x with
  | none => rfl
  | some o => exact absurd q (g x (by rw [r]; intro z; cases z))
/-- a kind holds on -/
theorem KdOk.later (h : KdOk k OW0 H0 Z1 OW1 H1 f) (t : ∀ a ∈ f, H1 a ≠ none) (s : Stp Z1 OW1 H1 Z2 OW2 H2) (e : Same H1 H2) : KdOk k OW0 H0 Z2 OW2 H2 f := by
  cases k with
  | own =>
    refine ⟨h.1, fun a ha => ?_⟩
    obtain ⟨q1, q2, q3, q4⟩ := h.2 a ha
    refine ⟨fun z => ?_, fun z => ?_, q3, q4.same e⟩
    · rcases s.ow a z with z | z
      · exact q1 z
      · exact t a ha z
    · rcases s.n2 a z with z | z | z
      · exact q2 z
      · exact q1 z
      · exact t a ha z
  | sh => exact fun a ha => s.s1 a (h a ha)
  | bor => exact fun a ha => s.n1 a (h a ha)
  | any => trivial
/-- a kind from an earlier start -/
theorem KdOk.from (h : KdOk k OW1 H1 Z2 OW2 H2 f) (s : Stp Z OW H Z1 OW1 H1) : KdOk k OW H Z2 OW2 H2 f := by
  cases k with
  | own =>
    refine ⟨h.1, fun a ha => ?_⟩
    obtain ⟨q1, q2, q3, q4⟩ := h.2 a ha
    refine ⟨q1, q2, ?_, q4⟩
    rcases q3 with q | q
    · exact s.ow a q
    · exact .inr (hn_of s.gro q)
  | sh => exact h
  | bor => exact h
  | any => trivial
/-- own made shareable -/
def Zn.add (Z : Zn) (f : List Addr) : Zn := ⟨fun a => Z.s a ∨ a ∈ f, fun a => Z.n a ∨ a ∈ f⟩
theorem ER.share (E : ER cm ms Z1 H1 σ env OW1) (h : ∀ a ∈ f, a ∉ OW1 ∧ H1 a ≠ none) : ER cm ms (Z1.add f) H1 σ env OW1 :=
  ⟨E.sl.mono (fun a q => .inl q) (fun a q => .inl q), E.nd, E.wr, fun a ha q => by
    rcases q with q | q
    · exact E.dis a ha q
    · exact (h a q).1 ha, fun a q => by
    rcases q with q | q
    · exact E.tr a q
    · exact (h a q).2, fun a q => by
    rcases q with q | q
    · exact .inl (E.sub a q)
    · exact .inr q⟩
theorem Stp.share (s : Stp Z OW H Z1 OW1 H1) (h : ∀ a ∈ f, a ∈ OW ∨ H a = none) : Stp Z OW H (Z1.add f) OW1 H1 :=
  ⟨s.ow, fun a q => .inl (s.n1 a q), fun a q => .inl (s.s1 a q), fun a q => by
    rcases q with q | q
    · exact s.n2 a q
    · exact .inr (h a q), fun a q => by
    rcases q with q | q
    · exact s.s2 a q
    · exact .inr (h a q), s.gro⟩
/-- a weaker kind: perhaps more is shareable then -/
theorem KdOk.weak (h : KdOk k1 OW H Z1 OW1 H1 f) (s : Stp Z OW H Z1 OW1 H1) (E : ER cm ms Z1 H1 σ env OW1) (t : ∀ a ∈ f, H1 a ≠ none) (le : leK k1 k2 = true) :
    ∃ Z2, Stp Z OW H Z2 OW1 H1 ∧ ER cm ms Z2 H1 σ env OW1 ∧ KdOk k2 OW H Z2 OW1 H1 f ∧ (∀ a, Z1.s a → Z2.s a) ∧ (∀ a, Z1.n a → Z2.n a) ∧ (∀ a, Z2.n a → Z1.n a ∨ a ∈ f) := by
  have mk : k1 = .own → ∃ Z2, Stp Z OW H Z2 OW1 H1 ∧ ER cm ms Z2 H1 σ env OW1 ∧ (∀ a ∈ f, Z2.s a) ∧ (∀ a, Z1.s a → Z2.s a) ∧ (∀ a, Z1.n a → Z2.n a) ∧ (∀ a, Z2.n a → Z1.n a ∨ a ∈ f) := fun e => by
    subst e
    exact ⟨Z1.add f, s.share fun a ha => (h.2 a ha).2.2.1, E.share fun a ha => ⟨(h.2 a ha).1, t a ha⟩, fun a ha => .inr ha, fun a q => .inl q, fun a q => .inl q, fun a q => q⟩
  have same : KdOk k2 OW H Z1 OW1 H1 f → ∃ Z2, Stp Z OW H Z2 OW1 H1 ∧ ER cm ms Z2 H1 σ env OW1 ∧ KdOk k2 OW H Z2 OW1 H1 f ∧ (∀ a, Z1.s a → Z2.s a) ∧ (∀ a, Z1.n a → Z2.n a) ∧ (∀ a, Z2.n a → Z1.n a ∨ a ∈ f) := fun q => ⟨Z1, s, E, q, fun a q => q, fun a q => q, fun a q => .inl q⟩
  cases k1 with
  | own =>
    cases k2 with
    | own => exact same h
    | sh =>
      obtain ⟨Z2, a, b, c, d⟩ := mk rfl
      exact ⟨Z2, a, b, c, d⟩
    | bor =>
      obtain ⟨Z2, a, b, c, d⟩ := mk rfl
      exact ⟨Z2, a, b, fun x hx => b.sub x (c x hx), d⟩
    | any => exact same trivial
  | sh =>
    cases k2 with
    | own => cases le
    | sh => exact same h
    | bor => exact same fun x hx => E.sub x (h x hx)
    | any => exact same trivial
  | bor =>
    cases k2 with
    | own => cases le
    | sh => cases le
    | bor => exact same h
    | any => exact same trivial
  | any =>
    cases k2 with
    | any => exact same trivial
    | _ => cases le
theorem KdOk.nil (k : Kd) : KdOk k OW H Z1 OW1 H1 [] := by
  cases k with
  | own => exact ⟨List.nodup_nil, fun a ha => by cases ha⟩
  | sh => exact fun a ha => by cases ha
  | bor => exact fun a ha => by cases ha
  | any => trivial
/-- a part of what a kind speaks of -/
theorem KdOk.part (h : KdOk k OW H Z1 OW1 H1 f) (s : ∀ a ∈ f1, a ∈ f) (n : f.Nodup → f1.Nodup) : KdOk k OW H Z1 OW1 H1 f1 := by
  cases k with
  | own => exact ⟨n h.1, fun a ha => h.2 a (s a ha)⟩
  | sh => exact fun a ha => h a (s a ha)
  | bor => exact fun a ha => h a (s a ha)
  | any => trivial
theorem KdOk.app (h1 : KdOk k OW H Z1 OW1 H1 f1) (h2 : KdOk k OW H Z1 OW1 H1 f2) (d : k = .own → ∀ a ∈ f1, a ∉ f2) : KdOk k OW H Z1 OW1 H1 (f1 ++ f2) := by
  cases k with
  | own =>
    refine ⟨List.nodup_append.mpr ⟨h1.1, h2.1, fun a ha b hb z => d rfl a ha (z ▸ hb)⟩, fun a ha => ?_⟩
    rcases List.mem_append.mp ha with ha | ha
    · exact h1.2 a ha
    · exact h2.2 a ha
  | sh =>
    intro a ha
    rcases List.mem_append.mp ha with ha | ha
    · exact h1 a ha
    · exact h2 a ha
  | bor =>
    intro a ha
    rcases List.mem_append.mp ha with ha | ha
    · exact h1 a ha
    · exact h2 a ha
  | any => trivial
end
def b2 (ra rb : Option (R D)) (g : D → D → Option (R D)) : Option (R D) :=
  match ra with
  | none => none
  | some (.ex c p) => some (.ex c p)
  | some (.ok d) => match rb with
    | none => none
    | some (.ex c p) => some (.ex c p)
    | some (.ok e) => g d e
def b1 (ra : Option (R D)) (g : D → Option (R D)) : Option (R D) :=
  match ra with
  | none => none
  | some (.ex c p) => some (.ex c p)
  | some (.ok d) => g d
section
variable {p : Pm} {ms m1 m2 : List M} {Z : Zn} {H : Hp} {σ : L2.St} {env : EnvD} {OW : List Addr} {k k1 k2 : Kd} {Q : VK}
/-- one part -/
theorem XE.one (a : XE) {g : D → Option (R D)} {T : V → Hp → Prop} (h1 : a.mo ms = some (k1, m1)) (E : ER p.cm ms Z H σ env OW) (hP : PoE p k m2 Z H σ env OW (b1 (a.f env) g) Q)
    (hok : ∀ d v H1 f1 Z1 OW1, a.f env = some (.ok d) → Same H H1 → Stp Z OW H Z1 OW1 H1 → ER p.cm m1 Z1 H1 σ env OW1 → RpL p.cm H1 [v] [d] f1 → KdOk k1 OW H Z1 OW1 H1 f1 → PoE p k m2 Z H σ env OW (g d) Q → T v H1) : a.t p σ H T := by
  refine a.ok p ms k1 m1 h1 Z H σ env OW T E ?_
  cases q : a.f env with
  | none => rw [q] at hP; exact hP
  | some r =>
    rw [q] at hP
    cases r with
    | ex c pl => exact hP
    | ok d => exact fun v H1 f1 Z1 OW1 e s E1 r1 k1 => hok d v H1 f1 Z1 OW1 q e s E1 r1 k1 hP
/-- two parts, the left first -/
theorem XE.two (a b : XE) {g : D → D → Option (R D)} {T : V → V → Hp → Prop} (h1 : a.mo ms = some (k1, m1)) (h2 : b.mo m1 = some (k2, m2)) {m3 : List M} (E : ER p.cm ms Z H σ env OW) (hP : PoE p k m3 Z H σ env OW (b2 (a.f env) (b.f env) g) Q)
    (hok : ∀ d1 d2 v1 v2 H2 f1 f2 Z2 OW2, a.f env = some (.ok d1) → b.f env = some (.ok d2) → Same H H2 → Stp Z OW H Z2 OW2 H2 → ER p.cm m2 Z2 H2 σ env OW2 → RpL p.cm H2 [v1] [d1] f1 → RpL p.cm H2 [v2] [d2] f2 → KdOk k1 OW H Z2 OW2 H2 f1 → KdOk k2 OW H Z2 OW2 H2 f2 →
      (k1 = .own → k2 = .own → ∀ a ∈ f1, a ∉ f2) → PoE p k m3 Z H σ env OW (g d1 d2) Q → T v1 v2 H2) : a.t p σ H (fun x H1 => b.t p σ H1 (fun y H2 => T x y H2)) := by
  refine a.ok p ms k1 m1 h1 Z H σ env OW _ E ?_
  cases q : a.f env with
  | none => rw [q] at hP; exact hP
  | some r =>
    rw [q] at hP
    cases r with
    | ex c pl => exact hP
    | ok d =>
      intro v H1 f1 Z1 OW1 e s E1 r1 K1
      refine b.ok p m1 k2 m2 h2 Z1 H1 σ env OW1 _ E1 ?_
      cases q2 : b.f env with
      | none => rw [q2] at hP; exact hP
      | some r2 =>
        rw [q2] at hP
        cases r2 with
        | ex c pl => exact fun dd H' e' x => hP dd H' (e.trans e') x
        | ok d2 =>
          intro v2 H2 f2 Z2 OW2 e2 s2 E2 r2 K2
          refine hok d d2 v v2 H2 f1 f2 Z2 OW2 q q2 (e.trans e2) (s.trans s2) E2 (r1.same e2) r2 (K1.later r1.trk s2 e2) (K2.from s) (fun z1 z2 x hx hy => ?_) hP
          subst z1 z2
          rcases (K2.2 x hy).2.2.1 with z | z
          · exact (K1.2 x hx).1 z
          · exact r1.trk x hx z
end
end DL
set_option maxRecDepth 100000
namespace DL
open PySem PySem.Spec PyProof.Rows L2
theorem join_bor : ∀ k1 k2 : Kd, joinK k1 k2 = .bor → k1 ≠ .any ∧ k2 ≠ .any := by
  intro k1 k2; cases k1 <;> cases k2 <;> decide
theorem join_sh : ∀ k1 k2 : Kd, joinK k1 k2 = .sh → (k1 = .own ∨ k1 = .sh) ∧ (k2 = .own ∨ k2 = .sh) := by
  intro k1 k2; cases k1 <;> cases k2 <;> decide
theorem join_own : ∀ k1 k2 : Kd, joinK k1 k2 = .own → k1 = .own ∧ k2 = .own := by
  intro k1 k2; cases k1 <;> cases k2 <;> decide
theorem set_self_of {α : Type} {l : List α} {i : Nat} {x : α} (h : l[i]? = some x) : l.set i x = l := by
  apply List.ext_getElem?
  intro j
  rw [List.getElem?_set]
  split
  · next e =>
    subst e
    split
    · exact h.symm
    · next z => rw [List.getElem?_eq_none (by omega)] at h; cases h
  · rfl
section
variable {cm : CM} {ms m1 m2 : List M} {Z Z1 Z2 : Zn} {H H0 H1 H2 H' : Hp} {σ : L2.St} {env : EnvD} {OW OW0 OW1 OW2 : List Addr} {f f1 f2 : List Addr} {k k1 k2 : Kd}
theorem KdOk.join (h1 : KdOk k1 OW H Z2 OW2 H2 f1) (h2 : KdOk k2 OW H Z2 OW2 H2 f2) (s : Stp Z OW H Z2 OW2 H2) (E : ER cm ms Z2 H2 σ env OW2) (t1 : ∀ a ∈ f1, H2 a ≠ none) (t2 : ∀ a ∈ f2, H2 a ≠ none) (d : k1 = .own → k2 = .own → ∀ a ∈ f1, a ∉ f2) :
    ∃ Z3, Stp Z OW H Z3 OW2 H2 ∧ ER cm ms Z3 H2 σ env OW2 ∧ KdOk (joinK k1 k2) OW H Z3 OW2 H2 (f1 ++ f2) := by
  by_cases ho : k1 = .own ∧ k2 = .own
  · obtain ⟨rfl, rfl⟩ := ho
    exact ⟨Z2, s, E, KdOk.app (k := .own) h1 h2 (fun _ => d rfl rfl)⟩
  · have g1 : ∃ g : List Addr, (k1 = .own → g = f1) ∧ ∀ a ∈ g, k1 = .own ∧ a ∈ f1 := by
      by_cases e : k1 = .own
      · exact ⟨f1, fun _ => rfl, fun a ha => ⟨e, ha⟩⟩
      · exact ⟨[], fun q => absurd q e, fun a ha => by cases ha⟩
    have g2 : ∃ g : List Addr, (k2 = .own → g = f2) ∧ ∀ a ∈ g, k2 = .own ∧ a ∈ f2 := by
      by_cases e : k2 = .own
      · exact ⟨f2, fun _ => rfl, fun a ha => ⟨e, ha⟩⟩
      · exact ⟨[], fun q => absurd q e, fun a ha => by cases ha⟩
    obtain ⟨g1, a1, b1⟩ := g1
    obtain ⟨g2, a2, b2⟩ := g2
    have fact : ∀ a ∈ g1 ++ g2, a ∉ OW2 ∧ H2 a ≠ none ∧ (a ∈ OW ∨ H a = none) := fun a ha => by
      rcases List.mem_append.mp ha with ha | ha
      · obtain ⟨e, hf⟩ := b1 a ha
        subst e
        exact ⟨(h1.2 a hf).1, t1 a hf, (h1.2 a hf).2.2.1⟩
      · obtain ⟨e, hf⟩ := b2 a ha
        subst e
        exact ⟨(h2.2 a hf).1, t2 a hf, (h2.2 a hf).2.2.1⟩
    refine ⟨Z2.add (g1 ++ g2), s.share fun a ha => (fact a ha).2.2, E.share fun a ha => ⟨(fact a ha).1, (fact a ha).2.1⟩, ?_⟩
    have o1 : k1 = .own → ∀ a ∈ f1, a ∈ g1 ++ g2 := fun e a ha => List.mem_append_left _ (by rw [a1 e]; exact ha)
    have o2 : k2 = .own → ∀ a ∈ f2, a ∈ g1 ++ g2 := fun e a ha => List.mem_append_right _ (by rw [a2 e]; exact ha)
    have sh1 : (k1 = .own ∨ k1 = .sh) → ∀ a ∈ f1, (Z2.add (g1 ++ g2)).s a := fun e a ha => by
      rcases e with e | e
      · exact .inr (o1 e a ha)
      · subst e; exact .inl (h1 a ha)
    have sh2 : (k2 = .own ∨ k2 = .sh) → ∀ a ∈ f2, (Z2.add (g1 ++ g2)).s a := fun e a ha => by
      rcases e with e | e
      · exact .inr (o2 e a ha)
      · subst e; exact .inl (h2 a ha)
    have n1 : k1 ≠ .any → ∀ a ∈ f1, (Z2.add (g1 ++ g2)).n a := fun e a ha => by
      cases k1 with
      | own => exact .inr (o1 rfl a ha)
      | sh => exact .inl (E.sub a (h1 a ha))
      | bor => exact .inl (h1 a ha)
      | any => exact absurd rfl e
    have n2 : k2 ≠ .any → ∀ a ∈ f2, (Z2.add (g1 ++ g2)).n a := fun e a ha => by
      cases k2 with
      | own => exact .inr (o2 rfl a ha)
      | sh => exact .inl (E.sub a (h2 a ha))
      | bor => exact .inl (h2 a ha)
      | any => exact absurd rfl e
    have jn := join_bor k1 k2
    have js := join_sh k1 k2
    cases q : joinK k1 k2 with
    | own => exact absurd (join_own k1 k2 q) ho
    | sh =>
      intro a ha
      rcases List.mem_append.mp ha with ha | ha
      · exact sh1 (js q).1 a ha
      · exact sh2 (js q).2 a ha
    | bor =>
      intro a ha
      rcases List.mem_append.mp ha with ha | ha
      · exact n1 (jn q).1 a ha
      · exact n2 (jn q).2 a ha
    | any => trivial
/-- a new object behind all -/
theorem same_upd {H : Hp} {p : Addr} {o : HO} (h : H p = none) : Same H (upd H p o) := fun b x e => by
  rw [upd_ne (ne_of_none e h)]
  exact e
theorem KdOk.new {a : Addr} {o : HO} (h : KdOk k OW H Z1 OW1 H1 f) (s : Stp Z OW H Z1 OW1 H1) (E : ER cm ms Z1 H1 σ env OW1) (t : ∀ a ∈ f, H1 a ≠ none) (hn : H1 a = none) (w : Writ o) :
    ∃ Z2, Stp Z OW H Z2 OW1 (upd H1 a o) ∧ ER cm ms Z2 (upd H1 a o) σ env OW1 ∧ KdOk k OW H Z2 OW1 (upd H1 a o) (a :: f) := by
  have e : Same H1 (upd H1 a o) := same_upd hn
  have s2 : Stp Z OW H Z1 OW1 (upd H1 a o) := s.trans (Stp.same e)
  have E2 := E.same e
  have h2 : KdOk k OW H Z1 OW1 (upd H1 a o) f := h.later t (Stp.same e) e
  have na : a ∉ OW1 := fun z => E.sl.trk a z hn
  have nz : ¬ Z1.n a := fun z => E.tr a z hn
  have n0 : H a = none := hn_of s.gro hn
  have ta : (upd H1 a o) a ≠ none := by rw [upd_same]; intro z; cases z
  have hk : KdOk .own OW H Z1 OW1 (upd H1 a o) [a] := ⟨by simp, fun b hb => by
    have : b = a := by simpa using hb
    subst this
    exact ⟨na, nz, .inr n0, o, upd_same, w⟩⟩
  have j := KdOk.join hk h2 s2 E2 (fun b hb => by
    have : b = a := by simpa using hb
    subst this; exact ta) (fun b hb => Same.gro e b (t b hb)) (fun _ _ b hb hf => by
    have : b = a := by simpa using hb
    subst this; exact t b hf hn)
  obtain ⟨Z3, a1, a2, a3⟩ := j
  refine ⟨Z3, a1, a2, ?_⟩
  have je : joinK .own k = k := by cases k <;> rfl
  rw [je] at a3
  exact a3
end
/-! ### names and constants -/
def eget (env : EnvD) (i : Nat) : Option (R D) := match env[i]? with
  | some (some d) => some (.ok d)
  | _ => none
def kdOf : M → Option Kd
  | .dead => none
  | .sh => some .sh
  | .bor => some .bor
  | .own => some .any
def XE.var (i : Nat) : XE where
  t _ := tVar i
  f env := eget env i
  mo ms := match ms[i]? with
    | some .sh => some (.sh, ms)
    | some .bor => some (.bor, ms)
    | some .own => some (.any, ms)
    | _ => none
  ok p ms k ms' hm Z H σ env OW Q E hP := by
    have main : ∀ m, ms[i]? = some m → m ≠ .dead → ms' = ms → ((m = .sh → k = .sh) ∧ (m = .bor → k = .bor) ∧ (m = .own → k = .any)) → tVar i σ H Q := by
      intro m e hd em ek
      subst em
      obtain ⟨v, d, f, e1, e2, r, z1, z2, z3⟩ := E.sl.at i m e hd
      refine ⟨v, e1, ?_⟩
      have hP' : PoE p k ms' Z H σ env OW (some (.ok d)) Q := by unfold eget at hP; rw [e2] at hP; exact hP
      refine hP' v H f Z OW (Same.refl H) Stp.refl E r ?_
      cases m with
      | dead => exact absurd rfl hd
      | sh => rw [ek.1 rfl]; exact z1 rfl
      | bor => rw [ek.2.1 rfl]; exact z2 rfl
      | own => rw [ek.2.2 rfl]; trivial
    split at hm
    · next e => cases hm; exact main _ e (by intro z; cases z) rfl ⟨fun _ => rfl, (fun z => by cases z), fun z => by cases z⟩
    · next e => cases hm; exact main _ e (by intro z; cases z) rfl ⟨(fun z => by cases z), fun _ => rfl, fun z => by cases z⟩
    · next e => cases hm; exact main _ e (by intro z; cases z) rfl ⟨(fun z => by cases z), (fun z => by cases z), fun _ => rfl⟩
    · cases hm
/-- an owned name, moved out -/
def XE.mv (i : Nat) : XE where
  t _ := tVar i
  f env := eget env i
  mo ms := match ms[i]? with
    | some .own => some (.own, ms.set i .dead)
    | _ => none
  ok p ms k ms' hm Z H σ env OW Q E hP := by
    split at hm
    · next e =>
      cases hm
      obtain ⟨v, d, f, OW', e1, e2, r, s', z1, z2, z3⟩ := E.sl.move i e
      obtain ⟨n1, n2, n3⟩ := z3 E.nd
      refine ⟨v, e1, ?_⟩
      have hP' : PoE p .own (ms.set i .dead) Z H σ env OW (some (.ok d)) Q := by unfold eget at hP; rw [e2] at hP; exact hP
      refine hP' v H f Z OW' (Same.refl H) ⟨fun a ha => .inl (z2 a ha), fun _ h => h, fun _ h => h, fun _ h => .inl h, fun _ h => .inl h, fun _ h => h⟩ ⟨s', n2, fun a ha => E.wr a (z2 a ha), fun a ha => E.dis a (z2 a ha), E.tr, E.sub⟩ r ⟨n1, fun a ha => ⟨n3 a ha, E.dis a (z1 a ha), .inl (z1 a ha), E.wr a (z1 a ha)⟩⟩
    · cases hm
/-- an owned name, frozen from here on -/
def XE.fz (i : Nat) : XE where
  t _ := tVar i
  f env := eget env i
  mo ms := match ms[i]? with
    | some .own => some (.sh, ms.set i .sh)
    | _ => none
  ok p ms k ms' hm Z H σ env OW Q E hP := by
    split at hm
    · next e =>
      cases hm
      obtain ⟨v, d, f, OW', e1, e2, r, s', z1, z2, z3⟩ := E.sl.move i e
      obtain ⟨n1, n2, n3⟩ := z3 E.nd
      refine ⟨v, e1, ?_⟩
      have hP' : PoE p .sh (ms.set i .sh) Z H σ env OW (some (.ok d)) Q := by unfold eget at hP; rw [e2] at hP; exact hP
      have E0 : ER p.cm (ms.set i .dead) Z H σ env OW' := ⟨s', n2, fun a ha => E.wr a (z2 a ha), fun a ha => E.dis a (z2 a ha), E.tr, E.sub⟩
      have E1 := E0.share (f := f) fun a ha => ⟨n3 a ha, r.trk a ha⟩
      have lt : i < ms.length := by
        rcases Nat.lt_or_ge i ms.length with h | h
        · exact h
        · rw [List.getElem?_eq_none h] at e; cases e
      have sl2 := (E1.sl.putS i v d f (by rw [List.getElem?_set_self lt]) r).1 fun a ha => .inr ha
      rw [List.set_set] at sl2
      have es : σ.set i (some v) = σ := set_self_of e1
      have ee : env.set i (some d) = env := set_self_of e2
      rw [es, ee] at sl2
      refine hP' v H f (Z.add f) OW' (Same.refl H) ?_ ⟨sl2, E1.nd, E1.wr, E1.dis, E1.tr, E1.sub⟩ r fun a ha => .inr ha
      exact ⟨fun a ha => .inl (z2 a ha), fun _ h => .inl h, fun _ h => .inl h, fun a h => by
        rcases h with h | h
        · exact .inl h
        · exact .inr (.inl (z1 a h)), fun a h => by
        rcases h with h | h
        · exact .inl h
        · exact .inr (.inl (z1 a h)), fun _ h => h⟩
    · cases hm
/-- a constant -/
def XE.k (d : D) (v : V) (e : atomV d = some v) : XE where
  t _ := tC v
  f _ := some (.ok d)
  mo ms := some (.own, ms)
  ok p ms k ms' hm Z H σ env OW Q E hP := by
    cases hm
    exact hP v H [] Z OW (Same.refl H) Stp.refl E (RpL.at e) (KdOk.nil _)
abbrev XE.kI (i : Int) : XE := .k (.int i) (.int i) rfl
abbrev XE.kB (i : Bool) : XE := .k (.bl i) (.bl i) rfl
abbrev XE.kN : XE := .k .non .non rfl
abbrev XE.kS (s : Str) : XE := .k (.str s) (.str s) rfl
/-- a value without objects that change may be kept by whoever has it -/
def XE.imm (a : XE) : XE where
  t := a.t
  f env := b1 (a.f env) fun d => if immD d = true then some (.ok d) else none
  mo ms := match a.mo ms with
    | some (_, m1) => some (.own, m1)
    | none => none
  ok p ms k ms' hm Z H σ env OW Q E hP := by
    split at hm
    · next k1 m1 e =>
      cases hm
      refine XE.one a (T := Q) e E hP fun d v H1 f1 Z1 OW1 _ e1 s1 E1 r1 K1 hP1 => ?_
      by_cases q : immD d = true
      · rw [if_pos q] at hP1
        have : f1 = [] := r1.imm1 q
        subst this
        exact hP1 v H1 [] Z1 OW1 e1 s1 E1 r1 (KdOk.nil _)
      · rw [if_neg q] at hP1
        exact hP1.elim
    · cases hm
/-! ### operators on whole numbers -/
structure IOp where
  r : R2
  g : Int → Int → Option D
  ok : ∀ i j d, g i j = some d → ∃ v, atomV d = some v ∧ ∀ H Q, Q v H → r (.int i) (.int j) H Q
def moTwo (a b : XE) (ms : List M) : Option (Kd × Kd × List M) := match a.mo ms with
  | none => none
  | some (k1, m1) => match b.mo m1 with
    | none => none
    | some (k2, m2) => some (k1, k2, m2)
theorem moTwo_of {a b : XE} {ms m2 : List M} {k1 k2 : Kd} (h : moTwo a b ms = some (k1, k2, m2)) : ∃ m1, a.mo ms = some (k1, m1) ∧ b.mo m1 = some (k2, m2) := by
  unfold moTwo at h
  split at h
  · cases h
  · next e =>
    split at h
    · cases h
    · next e2 => cases h; exact ⟨_, e, e2⟩
def iopF (g : Int → Int → Option D) : D → D → Option (R D)
  | .int i, .int j => (g i j).map .ok
  | _, _ => none
theorem iopF_of {g : Int → Int → Option D} {x y : D} {r : R D} (h : iopF g x y = some r) : ∃ i j d, x = .int i ∧ y = .int j ∧ g i j = some d ∧ r = .ok d := by
  cases x <;> cases y <;> first | (cases h; done) | skip
  next i j =>
  have h' : (g i j).map R.ok = some r := h
  cases q : g i j with
  | none => rw [q] at h'; cases h'
  | some d => rw [q] at h'; cases h'; exact ⟨i, j, d, rfl, rfl, q, rfl⟩
def XE.iop (o : IOp) (a b : XE) : XE where
  t p := tOp o.r (a.t p) (b.t p)
  f env := b2 (a.f env) (b.f env) (iopF o.g)
  mo ms := match moTwo a b ms with
    | some (_, _, m2) => some (.own, m2)
    | none => none
  ok p ms k ms' hm Z H σ env OW Q E hP := by
    split at hm
    · next k1 k2 m2 e =>
      cases hm
      obtain ⟨m1, h1, h2⟩ := moTwo_of e
      refine XE.two a b h1 h2 E hP fun d1 d2 v1 v2 H2 f1 f2 Z2 OW2 _ _ e2 s2 E2 r1 r2 _ _ _ hP2 => ?_
      cases q : iopF o.g d1 d2 with
      | none => rw [q] at hP2; exact hP2.elim
      | some r =>
        obtain ⟨i, j, d, rfl, rfl, hg, rfl⟩ := iopF_of q
        rw [q] at hP2
        obtain ⟨rfl, rfl⟩ := r1.int_of
        obtain ⟨rfl, rfl⟩ := r2.int_of
        obtain ⟨v, hv, hr⟩ := o.ok i j d hg
        exact hr H2 Q (hP2 v H2 [] Z2 OW2 e2 s2 E2 (RpL.at hv) (KdOk.nil _))
    · cases hm
def IOp.mk0 (h : Int → Int → D) (gv : Int → Int → V) (e : ∀ i j, atomV (h i j) = some (gv i j)) : IOp where
  r := rI0 gv
  g i j := some (h i j)
  ok i j d hd := by cases hd; exact ⟨gv i j, e i j, fun H Q q => ⟨i, j, rfl, rfl, q⟩⟩
def IOp.add : IOp := .mk0 (fun i j => .int (i + j)) (fun i j => .int (i + j)) fun _ _ => rfl
def IOp.sub : IOp := .mk0 (fun i j => .int (i - j)) (fun i j => .int (i - j)) fun _ _ => rfl
def IOp.lt : IOp := .mk0 (fun i j => .bl (decide (i < j))) (fun i j => .bl (decide (i < j))) fun _ _ => rfl
end DL
set_option maxRecDepth 100000
namespace DL
open PySem PySem.Spec PyProof.Rows L2
def IOp.le : IOp := .mk0 (fun i j => .bl (decide (i ≤ j))) (fun i j => .bl (decide (i ≤ j))) fun _ _ => rfl
def IOp.gt : IOp := .mk0 (fun i j => .bl (decide (j < i))) (fun i j => .bl (decide (j < i))) fun _ _ => rfl
def IOp.ge : IOp := .mk0 (fun i j => .bl (decide (j ≤ i))) (fun i j => .bl (decide (j ≤ i))) fun _ _ => rfl
def IOp.mkC (C : Int → Int → Prop) [∀ i j, Decidable (C i j)] (h : Int → Int → Int) : IOp where
  r := rI C fun i j => .int (h i j)
  g i j := if C i j then some (.int (h i j)) else none
  ok i j d hd := by
    by_cases c : C i j
    · rw [if_pos c] at hd
      cases hd
      exact ⟨_, rfl, fun H Q q => ⟨i, j, rfl, rfl, c, q⟩⟩
    · rw [if_neg c] at hd; cases hd
/-- * below the largest int -/
def CMulB (i j : Int) : Prop := i.natAbs.log2 + j.natAbs.log2 < 134217000
theorem CMulB.ok {i j : Int} (h : CMulB i j) : IntMulOk i j := by
  have b : ∀ x : Int, Builtin.Int.intBits x ≤ x.natAbs.log2 + 1 := fun x => by
    unfold Builtin.Int.intBits
    split <;> omega
  have h1 := b i
  have h2 := b j
  have h3 : i.natAbs.log2 + j.natAbs.log2 < 134217000 := h
  have e : bitsLine = 134217728 := by decide
  unfold IntMulOk
  intro z
  rw [Bool.and_eq_true] at z
  have z2 := z.2
  unfold Builtin.Int.intTooBig at z2
  have z3 := of_decide_eq_true z2
  rw [e] at z3
  omega
section
variable {X : Cx}
theorem op_mulB : OpR X (binaryOp .Mult) (rI CMulB fun i j => .int (i * j)) := by
  rintro pins s σ H x y v u Q I rx ry ⟨i, j, rfl, rfl, c, q⟩
  obtain ⟨t, rfl⟩ := rx
  obtain ⟨t', rfl⟩ := ry
  exact mul_int ⟨.int (i * j), H, I.tok _, ⟨_, rfl⟩, q⟩ c.ok
end
instance (i j : Int) : Decidable (CMulB i j) := inferInstanceAs (Decidable (_ < _))
instance (i j : Int) : Decidable (CDivW i j) := inferInstanceAs (Decidable (_ ∧ _))
instance (i j : Int) : Decidable (CPow i j) := by unfold CPow; infer_instance
def IOp.mul : IOp := .mkC CMulB fun i j => i * j
def IOp.fdv : IOp := .mkC CDivW fun i j => i / j
def IOp.mod : IOp := .mkC (fun _ j => j ≠ 0) fun i j => i.fmod j
def IOp.pow : IOp := .mkC CPow fun i j => i ^ j.toNat
/-! ### - -/
def XE.neg (a : XE) : XE where
  t p := tUn (rU fun i => .int (-i)) (a.t p)
  f env := b1 (a.f env) fun d => match d with
    | .int i => some (.ok (.int (-i)))
    | _ => none
  mo ms := match a.mo ms with
    | some (_, m1) => some (.own, m1)
    | none => none
  ok p ms k ms' hm Z H σ env OW Q E hP := by
    split at hm
    · next k1 m1 e =>
      cases hm
      refine XE.one a e E hP fun d v H1 f1 Z1 OW1 _ e1 s1 E1 r1 K1 hP1 => ?_
      cases d with
      | int i =>
        obtain ⟨rfl, rfl⟩ := r1.int_of
        exact ⟨i, rfl, hP1 (.int (-i)) H1 [] Z1 OW1 e1 s1 E1 (RpL.at rfl) (KdOk.nil _)⟩
      | _ => exact hP1.elim
    · cases hm
/-! ### is None -/
def isN : D → Bool
  | .non => true
  | _ => false
theorem isN_of {cm H v d f} (r : RpL cm H [v] [d] f) : decide (v = V.non) = isN d := by
  cases d with
  | non => obtain ⟨rfl, _⟩ := r.non_of; rfl
  | bl b => obtain ⟨rfl, _⟩ := r.bl_of; rfl
  | int b => obtain ⟨rfl, _⟩ := r.int_of; rfl
  | str b => obtain ⟨rfl, _⟩ := r.str_of; rfl
  | tup b => obtain ⟨a, us, rfl, _⟩ := r.tup_of; rfl
  | lst b => obtain ⟨a, us, g, rfl, _⟩ := r.lst_of; rfl
  | dct b => obtain ⟨a, us, g, rfl, _⟩ := r.dct_of; rfl
  | ins c b => obtain ⟨a, us, g, _, rfl, _⟩ := r.ins_of; rfl
  | scr b => obtain ⟨a, us, rfl, _⟩ := r.scr_of; rfl
def XE.isNo (neg : Bool) (a : XE) : XE where
  t p := if neg then tOp (fun x y H Q => y = .non ∧ Q (.bl (!decide (x = .non))) H) (a.t p) (tC .non) else tOp (fun x y H Q => y = .non ∧ Q (.bl (decide (x = .non))) H) (a.t p) (tC .non)
  f env := b1 (a.f env) fun d => some (.ok (.bl (if neg then !isN d else isN d)))
  mo ms := match a.mo ms with
    | some (_, m1) => some (.own, m1)
    | none => none
  ok p ms k ms' hm Z H σ env OW Q E hP := by
    split at hm
    · next k1 m1 e =>
      cases hm
      cases neg with
      | true =>
        refine XE.one a e E hP fun d v H1 f1 Z1 OW1 _ e1 s1 E1 r1 K1 hP1 => ?_
        refine ⟨rfl, ?_⟩
        rw [isN_of r1]
        exact hP1 _ H1 [] Z1 OW1 e1 s1 E1 (RpL.at rfl) (KdOk.nil _)
      | false =>
        refine XE.one a e E hP fun d v H1 f1 Z1 OW1 _ e1 s1 E1 r1 K1 hP1 => ?_
        refine ⟨rfl, ?_⟩
        rw [isN_of r1]
        exact hP1 _ H1 [] Z1 OW1 e1 s1 E1 (RpL.at rfl) (KdOk.nil _)
    · cases hm
/-! ### not, and, or -/
def XE.not (a : XE) : XE where
  t p := tNotV (a.t p)
  f env := b1 (a.f env) fun d => match d with
    | .bl b => some (.ok (.bl (!b)))
    | _ => none
  mo ms := match a.mo ms with
    | some (_, m1) => some (.own, m1)
    | none => none
  ok p ms k ms' hm Z H σ env OW Q E hP := by
    split at hm
    · next k1 m1 e =>
      cases hm
      refine XE.one a e E hP fun d v H1 f1 Z1 OW1 _ e1 s1 E1 r1 K1 hP1 => ?_
      cases d with
      | bl b =>
        obtain ⟨rfl, rfl⟩ := r1.bl_of
        exact ⟨b, rfl, hP1 _ H1 [] Z1 OW1 e1 s1 E1 (RpL.at rfl) (KdOk.nil _)⟩
      | _ => exact hP1.elim
    · cases hm
/-- the second part only if the first is c -/
def bIf (c : Bool) (ra rb : Option (R D)) : Option (R D) := b1 ra fun d => match d with
  | .bl b => if b = c then rb else some (.ok (.bl b))
  | _ => none
theorem PoE.after {p : Pm} {k : Kd} {ms' : List M} {Z Z1 : Zn} {H H1 : Hp} {σ : L2.St} {env : EnvD} {OW OW1 : List Addr} {r : Option (R D)} {Q : VK} (h : PoE p k ms' Z H σ env OW r Q) (e : Same H H1) (s : Stp Z OW H Z1 OW1 H1) : PoE p k ms' Z1 H1 σ env OW1 r Q := by
  cases r with
  | none => exact h
  | some r =>
    cases r with
    | ex c pl => exact fun dd H2 e2 x => h dd H2 (e.trans e2) x
    | ok d => exact fun v H2 f Z2 OW2 e2 s2 E2 r2 K2 => h v H2 f Z2 OW2 (e.trans e2) (s.trans s2) E2 r2 (K2.from s)
def moAnd (a b : XE) (ms : List M) : Option (Kd × List M) := match a.mo ms with
  | none => none
  | some (_, m1) => match b.mo m1 with
    | none => none
    | some (k2, m2) => if m2 = m1 then some (k2, m2) else none
theorem moAnd_of {a b : XE} {ms ms' : List M} {k : Kd} (h : moAnd a b ms = some (k, ms')) : ∃ k1, a.mo ms = some (k1, ms') ∧ b.mo ms' = some (k, ms') := by
  unfold moAnd at h
  split at h
  · cases h
  · next e =>
    split at h
    · cases h
    · next e2 =>
      split at h
      · next e3 => cases h; subst e3; exact ⟨_, e, e2⟩
      · cases h
def XE.and (a b : XE) : XE where
  t p := tAndV (a.t p) (b.t p)
  f env := bIf true (a.f env) (b.f env)
  mo ms := moAnd a b ms
  ok p ms k ms' hm Z H σ env OW Q E hP := by
    obtain ⟨k1, h1, h2⟩ := moAnd_of hm
    refine XE.one a h1 E hP fun d v H1 f1 Z1 OW1 _ e1 s1 E1 r1 K1 hP1 => ?_
    cases d with
    | bl c =>
      obtain ⟨rfl, rfl⟩ := r1.bl_of
      refine ⟨c, rfl, ?_⟩
      cases c with
      | true =>
        rw [if_pos rfl]
        exact b.ok p ms' k ms' h2 Z1 H1 σ env OW1 Q E1 (PoE.after hP1 e1 s1)
      | false =>
        rw [if_neg Bool.false_ne_true]
        exact hP1 _ H1 [] Z1 OW1 e1 s1 E1 (RpL.at rfl) (KdOk.nil _)
    | _ => exact hP1.elim
def XE.or (a b : XE) : XE where
  t p := tOrV (a.t p) (b.t p)
  f env := bIf false (a.f env) (b.f env)
  mo ms := moAnd a b ms
  ok p ms k ms' hm Z H σ env OW Q E hP := by
    obtain ⟨k1, h1, h2⟩ := moAnd_of hm
    refine XE.one a h1 E hP fun d v H1 f1 Z1 OW1 _ e1 s1 E1 r1 K1 hP1 => ?_
    cases d with
    | bl c =>
      obtain ⟨rfl, rfl⟩ := r1.bl_of
      refine ⟨c, rfl, ?_⟩
      cases c with
      | false =>
        rw [if_neg Bool.false_ne_true]
        exact b.ok p ms' k ms' h2 Z1 H1 σ env OW1 Q E1 (PoE.after hP1 e1 s1)
      | true =>
        rw [if_pos rfl]
        exact hP1 _ H1 [] Z1 OW1 e1 s1 E1 (RpL.at rfl) (KdOk.nil _)
    | _ => exact hP1.elim
/-! ### equality -/
mutual
def toPy : D → Option PyData
  | .non => some .none
  | .bl b => some (.bool b)
  | .int i => some (.int i)
  | .str s => some (.str s)
  | .tup xs => (toPyL xs).map .tuple
  | .lst xs => (toPyL xs).map .list
  | .dct _ => none
  | .ins _ _ => none
  | .scr xs => (toPyL xs).map .list
def toPyL : List D → Option (List PyData)
  | [] => some []
  | d :: ds => match toPy d, toPyL ds with
    | some x, some xs => some (x :: xs)
    | _, _ => none
end
theorem toPyL_cons {d : D} {ds : List D} {xs : List PyData} (h : toPyL (d :: ds) = some xs) : ∃ x ys, toPy d = some x ∧ toPyL ds = some ys ∧ xs = x :: ys := by
  rw [toPyL] at h
  split at h
  · next e1 e2 => cases h; exact ⟨_, _, e1, e2, rfl⟩
  · cases h
theorem RpL.dps {cm : CM} {H vs ds f} (h : RpL cm H vs ds f) : ∀ xs, toPyL ds = some xs → DpAll cm.K H vs xs := by
  induction h with
  | nil => intro xs e; rw [toPyL] at e; cases e; exact .nil
  | @atom v d vs ds f e _ ih =>
    intro xs q
    obtain ⟨x, ys, q1, q2, rfl⟩ := toPyL_cons q
    refine .cons ?_ (ih ys q2)
    cases d with
    | non => rw [toPy] at q1; cases q1; cases e; exact .non
    | bl b => rw [toPy] at q1; cases q1; cases e; exact .bl b
    | int b => rw [toPy] at q1; cases q1; cases e; exact .int b
    | str b => rw [toPy] at q1; cases q1; cases e; exact .str b
    | _ => cases e
  | tup r _ _ i1 i2 =>
    intro xs q
    obtain ⟨x, ys, q1, q2, rfl⟩ := toPyL_cons q
    refine .cons ?_ (i2 ys q2)
    rw [toPy] at q1
    obtain ⟨zs, q3, rfl⟩ := Option.map_eq_some_iff.mp q1
    exact .tup (.inl r) (i1 zs q3)
  | lst r _ _ i1 i2 =>
    intro xs q
    obtain ⟨x, ys, q1, q2, rfl⟩ := toPyL_cons q
    refine .cons ?_ (i2 ys q2)
    rw [toPy] at q1
    obtain ⟨zs, q3, rfl⟩ := Option.map_eq_some_iff.mp q1
    exact .lst (.inl r) (i1 zs q3)
  | scr r _ _ i1 i2 =>
    intro xs q
    obtain ⟨x, ys, q1, q2, rfl⟩ := toPyL_cons q
    refine .cons ?_ (i2 ys q2)
    rw [toPy] at q1
    obtain ⟨zs, q3, rfl⟩ := Option.map_eq_some_iff.mp q1
    exact .lst r.sq (i1 zs q3)
  | dct r _ _ _ i1 i2 =>
    intro xs q
    obtain ⟨x, ys, q1, q2, rfl⟩ := toPyL_cons q
    rw [toPy] at q1; cases q1
  | ins r _ _ _ i1 i2 =>
    intro xs q
    obtain ⟨x, ys, q1, q2, rfl⟩ := toPyL_cons q
    rw [toPy] at q1; cases q1
theorem RpL.dp {cm : CM} {H v d f x} (h : RpL cm H [v] [d] f) (e : toPy d = some x) : Dp cm.K H v x := by
  have := h.dps [x] (by rw [toPyL, e]; rfl)
  cases this with
  | cons a _ => exact a
def eqF (neg : Bool) (x y : D) : Option (R D) := match toPy x, toPy y with
  | some u, some w => if SeqAt.shaped u && SeqAt.shaped w then some (.ok (.bl (if neg then !PyData.eqv u w else PyData.eqv u w))) else none
  | _, _ => none
def XE.eq (neg : Bool) (a b : XE) : XE where
  t p := tOp (if neg then rNeD p.cm.K else rEqD p.cm.K) (a.t p) (b.t p)
  f env := b2 (a.f env) (b.f env) (eqF neg)
  mo ms := match moTwo a b ms with
    | some (_, _, m2) => some (.own, m2)
    | none => none
  ok p ms k ms' hm Z H σ env OW Q E hP := by
    split at hm
    · next k1 k2 m2 e =>
      cases hm
      obtain ⟨m1, h1, h2⟩ := moTwo_of e
      refine XE.two a b h1 h2 E hP fun d1 d2 v1 v2 H2 f1 f2 Z2 OW2 _ _ e2 s2 E2 r1 r2 _ _ _ hP2 => ?_
      unfold eqF at hP2
      split at hP2
      · next u w q1 q2 =>
        split at hP2
        · next hs =>
          rw [Bool.and_eq_true] at hs
          have hQ := hP2 _ H2 [] Z2 OW2 e2 s2 E2 (RpL.at rfl) (KdOk.nil _)
          cases neg with
          | true => exact ⟨u, w, r1.dp q1, r2.dp q2, hs.1, hs.2, hQ⟩
          | false => exact ⟨u, w, r1.dp q1, r2.dp q2, hs.1, hs.2, hQ⟩
        · exact hP2.elim
      · exact hP2.elim
    · cases hm
/-! ### an item -/
theorem atI_rp {cm H vs ds f} (h : RpL cm H vs ds f) {i : Int} {d : D} (e : atI ds i = some d) : ∃ v g, atI vs i = some v ∧ RpL cm H [v] [d] g ∧ (∀ a ∈ g, a ∈ f) ∧ (f.Nodup → g.Nodup) := by
  unfold atI at e ⊢
  rw [h.length]
  cases q : ixN ds.length i with
  | none => rw [q] at e; cases e
  | some j =>
    rw [q] at e
    obtain ⟨v, g, e1, r⟩ := h.get j d e
    exact ⟨v, g, e1, r⟩
def ixF (x y : D) : Option (R D) := match x, y with
  | .lst xs, .int i => (atI xs i).map .ok
  | .scr xs, .int i => (atI xs i).map .ok
  | .tup xs, .int i => (atI xs i).map .ok
  | .str z, .int i => if z.length ≤ sizeLine then (atI z.cps.toList i).map fun c => .ok (.str ⟨#[c]⟩) else none
  | _, _ => none
def XE.ix (a b : XE) : XE where
  t p := tOp (rIx p.cm.K) (a.t p) (b.t p)
  f env := b2 (a.f env) (b.f env) ixF
  mo ms := match moTwo a b ms with
    | some (k1, _, m2) => some (k1, m2)
    | none => none
  ok p ms k ms' hm Z H σ env OW Q E hP := by
    split at hm
    · next k1 k2 m2 e =>
      cases hm
      obtain ⟨m1, h1, h2⟩ := moTwo_of e
      refine XE.two a b h1 h2 E hP fun d1 d2 v1 v2 H2 f1 f2 Z2 OW2 _ _ e2 s2 E2 r1 r2 K1 _ _ hP2 => ?_
      cases d2 with
      | int i =>
        obtain ⟨rfl, rfl⟩ := r2.int_of
        cases d1 with
        | lst xs =>
          have hP2 : PoE p k ms' Z H σ env OW ((atI xs i).map .ok) Q := hP2
          obtain ⟨l, us, g, rfl, rd, rr, rfl⟩ := r1.lst_of
          cases q : atI xs i with
          | none => rw [q] at hP2; exact hP2.elim
          | some d =>
            rw [q] at hP2
            obtain ⟨v, g', ev, rv, sub, nd⟩ := atI_rp rr q
            exact .inl ⟨l, us, i, v, rfl, rfl, .inl rd, ev, hP2 v H2 g' Z2 OW2 e2 s2 E2 rv (K1.part (fun x hx => List.mem_cons_of_mem _ (sub x hx)) fun n => nd (List.nodup_cons.mp n).2)⟩
        | scr xs =>
          have hP2 : PoE p k ms' Z H σ env OW ((atI xs i).map .ok) Q := hP2
          obtain ⟨l, us, rfl, rd, rr, rfl⟩ := r1.scr_of
          cases q : atI xs i with
          | none => rw [q] at hP2; exact hP2.elim
          | some d =>
            rw [q] at hP2
            obtain ⟨v, g', ev, rv, sub, nd⟩ := atI_rp rr q
            exact .inl ⟨l, us, i, v, rfl, rfl, rd.sq, ev, hP2 v H2 g' Z2 OW2 e2 s2 E2 rv (K1.part sub nd)⟩
        | tup xs =>
          have hP2 : PoE p k ms' Z H σ env OW ((atI xs i).map .ok) Q := hP2
          obtain ⟨l, us, rfl, rd, rr⟩ := r1.tup_of
          cases q : atI xs i with
          | none => rw [q] at hP2; exact hP2.elim
          | some d =>
            rw [q] at hP2
            obtain ⟨v, g', ev, rv, sub, nd⟩ := atI_rp rr q
            exact .inr (.inl ⟨l, us, i, v, rfl, rfl, .inl rd, ev, hP2 v H2 g' Z2 OW2 e2 s2 E2 rv (K1.part sub nd)⟩)
        | str z =>
          obtain ⟨rfl, rfl⟩ := r1.str_of
          have hP2 : PoE p k ms' Z H σ env OW (if z.length ≤ sizeLine then (atI z.cps.toList i).map fun c => .ok (.str ⟨#[c]⟩) else none) Q := hP2
          by_cases hz : z.length ≤ sizeLine
          · rw [if_pos hz] at hP2
            cases q : atI z.cps.toList i with
            | none => rw [q] at hP2; exact hP2.elim
            | some c =>
              rw [q] at hP2
              exact .inr (.inr ⟨z, i, c, rfl, rfl, hz, q, hP2 _ H2 [] Z2 OW2 e2 s2 E2 (RpL.at rfl) (KdOk.nil _)⟩)
          · rw [if_neg hz] at hP2
            exact hP2.elim
        | _ => exact hP2.elim
      | _ => cases d1 <;> exact hP2.elim
    · cases hm
/-! ### lists of arguments -/
def XA.nil : XA where
  t _ := tNil
  f _ := some (.ok [])
  mo ms := some (.own, ms)
  ok p ms k ms' hm Z H σ env OW Q E hP := by
    cases hm
    exact hP [] H [] Z OW (Same.refl H) Stp.refl E .nil (KdOk.nil _)
def bA (ra : Option (R D)) (rs : Option (R (List D))) : Option (R (List D)) :=
  match ra with
  | none => none
  | some (.ex c p) => some (.ex c p)
  | some (.ok d) => match rs with
    | none => none
    | some (.ex c p) => some (.ex c p)
    | some (.ok ds) => some (.ok (d :: ds))
def XA.cons (a : XE) (as : XA) : XA where
  t p := tCons (a.t p) (as.t p)
  f env := bA (a.f env) (as.f env)
  mo ms := match a.mo ms with
    | none => none
    | some (k1, m1) => match as.mo m1 with
      | none => none
      | some (k2, m2) => some (joinK k1 k2, m2)
  ok p ms k ms' hm Z H σ env OW Q E hP := by
    split at hm
    · cases hm
    · next k1 m1 h1 =>
      split at hm
      · cases hm
      · next k2 m2 h2 =>
        cases hm
        refine a.ok p ms k1 m1 h1 Z H σ env OW _ E ?_
        cases q : a.f env with
        | none => rw [q] at hP; exact hP
        | some r =>
          rw [q] at hP
          cases r with
          | ex c pl => exact hP
          | ok d =>
            intro v H1 f1 Z1 OW1 e1 s1 E1 r1 K1
            refine as.ok p m1 k2 ms' h2 Z1 H1 σ env OW1 _ E1 ?_
            cases q2 : as.f env with
            | none => rw [q2] at hP; exact hP
            | some r2 =>
              rw [q2] at hP
              cases r2 with
              | ex c pl => exact fun dd H' e' x => hP dd H' (e1.trans e') x
              | ok ds =>
                intro vs H2 f2 Z2 OW2 e2 s2 E2 r2 K2
                have dj : k1 = .own → k2 = .own → ∀ a ∈ f1, a ∉ f2 := fun z1 z2 x hx hy => by
                  subst z1 z2
                  rcases (K2.2 x hy).2.2.1 with z | z
                  · exact (K1.2 x hx).1 z
                  · exact r1.trk x hx z
                obtain ⟨Z3, s3, E3, K3⟩ := KdOk.join (K1.later r1.trk s2 e2) (K2.from s1) (s1.trans s2) E2 (fun x hx => Same.gro e2 x (r1.trk x hx)) r2.trk dj
                exact hP (v :: vs) H2 (f1 ++ f2) Z3 OW2 (e1.trans e2) s3 E3 ((r1.same e2).cons1 r2) K3
def bL (rs : Option (R (List D))) (g : List D → Option (R D)) : Option (R D) :=
  match rs with
  | none => none
  | some (.ex c p) => some (.ex c p)
  | some (.ok ds) => g ds
/-- (a, b, ..) -/
def XE.tup (as : XA) : XE where
  t p := tTup (as.t p)
  f env := bL (as.f env) fun ds => if ds.length ≤ sizeLine then some (.ok (.tup ds)) else none
  mo ms := as.mo ms
  ok p ms k ms' hm Z H σ env OW Q E hP := by
    refine as.ok p ms k ms' hm Z H σ env OW _ E ?_
    cases q : as.f env with
    | none => rw [q] at hP; exact hP
    | some r =>
      rw [q] at hP
      cases r with
      | ex c pl => exact hP
      | ok ds =>
        intro vs H1 f Z1 OW1 e1 s1 E1 r1 K1
        have hP : PoE p k ms' Z H σ env OW (if ds.length ≤ sizeLine then some (.ok (.tup ds)) else none) Q := hP
        by_cases c : ds.length ≤ sizeLine
        · rw [if_pos c] at hP
          refine ⟨by rw [r1.length]; exact c, fun a ha => ?_⟩
          have e2 := same_upd (o := .tup vs) ha
          exact hP _ _ f Z1 OW1 (e1.trans e2) (s1.trans (Stp.same e2)) (E1.same e2) (RpL.tup1 (.inl upd_same) (r1.same e2)) (K1.later r1.trk (Stp.same e2) e2)
        · rw [if_neg c] at hP
          exact hP.elim
/-- [a, b, ..] -/
def XE.lst (as : XA) : XE where
  t p := tLst (as.t p)
  f env := bL (as.f env) fun ds => if ds.length ≤ sizeLine then some (.ok (.lst ds)) else none
  mo ms := as.mo ms
  ok p ms k ms' hm Z H σ env OW Q E hP := by
    refine as.ok p ms k ms' hm Z H σ env OW _ E ?_
    cases q : as.f env with
    | none => rw [q] at hP; exact hP
    | some r =>
      rw [q] at hP
      cases r with
      | ex c pl => exact hP
      | ok ds =>
        intro vs H1 f Z1 OW1 e1 s1 E1 r1 K1
        have hP : PoE p k ms' Z H σ env OW (if ds.length ≤ sizeLine then some (.ok (.lst ds)) else none) Q := hP
        by_cases c : ds.length ≤ sizeLine
        · rw [if_pos c] at hP
          refine ⟨by rw [r1.length]; exact c, fun a ha => ?_⟩
          have e2 := same_upd (o := .lst vs) ha
          obtain ⟨Z2, s2, E2, K2⟩ := K1.new s1 E1 r1.trk ha (o := .lst vs) trivial
          exact hP _ _ (a :: f) Z2 OW1 (e1.trans e2) s2 E2 (RpL.lst1 (.inl upd_same) (r1.same e2)) K2
        · rw [if_neg c] at hP
          exact hP.elim
/-- a built-in function that makes nothing -/
structure BI where
  r : Pm → List V → Hp → VK → Prop
  g : List D → Option D
  ok : ∀ p ds d, g ds = some d → ∃ v, atomV d = some v ∧ ∀ H vs f Q, RpL p.cm H vs ds f → Q v H → r p vs H Q
def XE.bi (o : BI) (as : XA) : XE where
  t p := tCB (o.r p) (as.t p)
  f env := bL (as.f env) fun ds => (o.g ds).map .ok
  mo ms := match as.mo ms with
    | some (_, m1) => some (.own, m1)
    | none => none
  ok p ms k ms' hm Z H σ env OW Q E hP := by
    split at hm
    · next k1 m1 e =>
      cases hm
      refine as.ok p ms k1 ms' e Z H σ env OW _ E ?_
      cases q : as.f env with
      | none => rw [q] at hP; exact hP
      | some r =>
        rw [q] at hP
        cases r with
        | ex c pl => exact hP
        | ok ds =>
          intro vs H1 f Z1 OW1 e1 s1 E1 r1 K1
          have hP : PoE p .own ms' Z H σ env OW ((o.g ds).map .ok) Q := hP
          cases qg : o.g ds with
          | none => rw [qg] at hP; exact hP.elim
          | some d =>
            rw [qg] at hP
            obtain ⟨v, ev, hr⟩ := o.ok p ds d qg
            exact hr H1 vs f Q r1 (hP v H1 [] Z1 OW1 e1 s1 E1 (RpL.at ev) (KdOk.nil _))
    · cases hm
end DL
set_option maxRecDepth 100000
namespace DL
open PySem PySem.Spec PyProof.Rows L2
/-! ### tests -/
structure XT where
  t : Pm → TT
  f : EnvD → Option (R D)
  mo : List M → Option (List M)
  ok : ∀ p ms ms', mo ms = some ms' → ∀ Z H σ env OW Q, ER p.cm ms Z H σ env OW → PoE p .own ms' Z H σ env OW (f env) (fun v H' => ∃ c, v = .bl c ∧ Q c H') → t p σ H Q
/-- a value that is True or False -/
def onlyB (r : Option (R D)) : Option (R D) := b1 r fun d => match d with
  | .bl b => some (.ok (.bl b))
  | _ => none
def XT.v (e : XE) : XT where
  t p := tB (e.t p)
  f env := onlyB (e.f env)
  mo ms := (e.mo ms).map (·.2)
  ok p ms ms' hm Z H σ env OW Q E hP := by
    cases h1 : e.mo ms with
    | none => rw [h1] at hm; cases hm
    | some km =>
      rw [h1] at hm
      cases hm
      refine XE.one e (k1 := km.1) (m1 := km.2) h1 E hP fun d v H1 f1 Z1 OW1 _ e1 s1 E1 r1 K1 hP1 => ?_
      cases d with
      | bl b =>
        obtain ⟨rfl, rfl⟩ := r1.bl_of
        exact hP1 _ H1 [] Z1 OW1 e1 s1 E1 (RpL.at rfl) (KdOk.nil _)
      | _ => exact hP1.elim
theorem XT.one (a : XT) {p : Pm} {ms m1 m2 : List M} {Z : Zn} {H : Hp} {σ : L2.St} {env : EnvD} {OW : List Addr} {k : Kd} {Q : VK} {g : Bool → Option (R D)} {T : Bool → Hp → Prop} (h1 : a.mo ms = some m1) (E : ER p.cm ms Z H σ env OW)
    (hP : PoE p k m2 Z H σ env OW (b1 (a.f env) fun d => match d with | .bl b => g b | _ => none) Q)
    (hok : ∀ c H1 Z1 OW1, a.f env = some (.ok (.bl c)) → Same H H1 → Stp Z OW H Z1 OW1 H1 → ER p.cm m1 Z1 H1 σ env OW1 → PoE p k m2 Z H σ env OW (g c) Q → T c H1) : a.t p σ H T := by
  refine a.ok p ms m1 h1 Z H σ env OW T E ?_
  cases q : a.f env with
  | none => rw [q] at hP; exact hP
  | some r =>
    rw [q] at hP
    cases r with
    | ex c pl => exact hP
    | ok d =>
      intro v H1 f1 Z1 OW1 e s E1 r1 k1
      cases d with
      | bl b =>
        obtain ⟨rfl, rfl⟩ := r1.bl_of
        exact ⟨b, rfl, hok b H1 Z1 OW1 q e s E1 hP⟩
      | _ => exact hP.elim
def moT2 (a b : XT) (ms : List M) : Option (List M) := match a.mo ms with
  | none => none
  | some m1 => match b.mo m1 with
    | none => none
    | some m2 => if m2 = m1 then some m2 else none
theorem moT2_of {a b : XT} {ms ms' : List M} (h : moT2 a b ms = some ms') : a.mo ms = some ms' ∧ b.mo ms' = some ms' := by
  unfold moT2 at h
  split at h
  · cases h
  · next e =>
    split at h
    · cases h
    · next e2 =>
      split at h
      · next e3 => cases h; subst e3; exact ⟨e, e2⟩
      · cases h
def bT (ra : Option (R D)) (g : Bool → Option (R D)) : Option (R D) := b1 ra fun d => match d with | .bl b => g b | _ => none
def XT.and (a b : XT) : XT where
  t p := tAnd (a.t p) (b.t p)
  f env := bT (a.f env) fun c => if c then b.f env else some (.ok (.bl false))
  mo ms := moT2 a b ms
  ok p ms ms' hm Z H σ env OW Q E hP := by
    obtain ⟨h1, h2⟩ := moT2_of hm
    refine XT.one a (g := fun c => if c then b.f env else some (.ok (.bl false))) h1 E hP fun c H1 Z1 OW1 _ e1 s1 E1 hP1 => ?_
    cases c with
    | true =>
      rw [if_pos rfl]
      exact b.ok p ms' ms' h2 Z1 H1 σ env OW1 Q E1 (PoE.after hP1 e1 s1)
    | false =>
      rw [if_neg Bool.false_ne_true]
      obtain ⟨c, e, q⟩ := hP1 _ H1 [] Z1 OW1 e1 s1 E1 (RpL.at rfl) (KdOk.nil _)
      cases e; exact q
def XT.or (a b : XT) : XT where
  t p := tOr (a.t p) (b.t p)
  f env := bT (a.f env) fun c => if c then some (.ok (.bl true)) else b.f env
  mo ms := moT2 a b ms
  ok p ms ms' hm Z H σ env OW Q E hP := by
    obtain ⟨h1, h2⟩ := moT2_of hm
    refine XT.one a (g := fun c => if c then some (.ok (.bl true)) else b.f env) h1 E hP fun c H1 Z1 OW1 _ e1 s1 E1 hP1 => ?_
    cases c with
    | false =>
      rw [if_neg Bool.false_ne_true]
      exact b.ok p ms' ms' h2 Z1 H1 σ env OW1 Q E1 (PoE.after hP1 e1 s1)
    | true =>
      rw [if_pos rfl]
      obtain ⟨c, e, q⟩ := hP1 _ H1 [] Z1 OW1 e1 s1 E1 (RpL.at rfl) (KdOk.nil _)
      cases e; exact q
def XT.not (a : XT) : XT where
  t p := tNot (a.t p)
  f env := bT (a.f env) fun c => some (.ok (.bl (!c)))
  mo ms := a.mo ms
  ok p ms ms' hm Z H σ env OW Q E hP := by
    refine XT.one a (g := fun c => some (.ok (.bl (!c)))) hm E hP fun c H1 Z1 OW1 _ e1 s1 E1 hP1 => ?_
    obtain ⟨c', e, q⟩ := hP1 _ H1 [] Z1 OW1 e1 s1 E1 (RpL.at rfl) (KdOk.nil _)
    cases e; exact q
/-! ### statements -/
inductive Out where
  | nx (e : EnvD) | rt (d : D) | bk (e : EnvD) | ct (e : EnvD) | ex (c : Nat) (pl : D) (e : EnvD)
structure Cm where
  rk : Kd
  mb : List M
  mc : List M
  mx : List M
def RkS (rk : Kd) (Z : Zn) (OW : List Addr) (H H' : Hp) (g : List Addr) : Prop := match rk with
  | .own => g.Nodup ∧ ∀ a ∈ g, (a ∈ OW ∨ H a = none) ∧ WrA H' a
  | .sh => ∀ a ∈ g, Z.s a ∨ a ∈ OW ∨ H a = none
  | _ => True
def PoS (p : Pm) (c : Cm) (k : Option (List M)) (Z : Zn) (H : Hp) (OW : List Addr) (o : Option Out) (En : Ends) : Prop :=
  match o with
  | none => False
  | some (.nx env') => ∀ ms', k = some ms' → ∀ σ' H' Z' OW', Fr OW H H' → Stp Z OW H Z' OW' H' → ER p.cm ms' Z' H' σ' env' OW' → En.nx σ' H'
  | some (.rt d) => ∀ v H' g, Fr OW H H' → RpL p.cm H' [v] [d] g → RkS c.rk Z OW H H' g → En.rt v H'
  | some (.bk env') => ∀ σ' H' Z' OW', Fr OW H H' → Stp Z OW H Z' OW' H' → ER p.cm c.mb Z' H' σ' env' OW' → En.bk σ' H'
  | some (.ct env') => ∀ σ' H' Z' OW', Fr OW H H' → Stp Z OW H Z' OW' H' → ER p.cm c.mc Z' H' σ' env' OW' → En.ct σ' H'
  | some (.ex cl pl env') => ∀ dd σ' H' Z' OW', Fr OW H H' → Stp Z OW H Z' OW' H' → ER p.cm c.mx Z' H' σ' env' OW' → ExD p.cm H' dd pl → p.W (.ref (p.cm.c cl)) dd σ' H'
structure XS where
  t : Pm → TS
  f : EnvD → Option Out
  mo : Cm → List M → Option (Option (List M))
  ok : ∀ p c ms k, mo c ms = some k → ∀ Z H σ env OW En, ER p.cm ms Z H σ env OW → PoS p c k Z H OW (f env) En → t p En σ H
section
variable {p : Pm} {cm : CM} {c : Cm} {ms m1 m2 : List M} {Z Z1 Z2 : Zn} {H H0 H1 H2 H' : Hp} {σ : L2.St} {env : EnvD} {OW OW0 OW1 OW2 : List Addr} {f f1 f2 : List Addr}
theorem PoS.after {k : Option (List M)} {o : Option Out} {En : Ends} (h : PoS p c k Z H OW o En) (e : Fr OW H H1) (s : Stp Z OW H Z1 OW1 H1) : PoS p c k Z1 H1 OW1 o En := by
  cases o with
  | none => exact h
  | some o =>
    cases o with
    | nx env' => exact fun ms' q σ' H' Z' OW' e2 s2 E2 => h ms' q σ' H' Z' OW' (e.trans s e2) (s.trans s2) E2
    | bk env' => exact fun σ' H' Z' OW' e2 s2 E2 => h σ' H' Z' OW' (e.trans s e2) (s.trans s2) E2
    | ct env' => exact fun σ' H' Z' OW' e2 s2 E2 => h σ' H' Z' OW' (e.trans s e2) (s.trans s2) E2
    | ex cl pl env' => exact fun dd σ' H' Z' OW' e2 s2 E2 x => h dd σ' H' Z' OW' (e.trans s e2) (s.trans s2) E2 x
    | rt d =>
      intro v H' g e2 r2 K2
      refine h v H' g (e.trans s e2) r2 ?_
      have back : ∀ a, (a ∈ OW1 ∨ H1 a = none) → (a ∈ OW ∨ H a = none) := fun a q => by
        rcases q with q | q
        · exact s.ow a q
        · exact .inr (hn_of s.gro q)
      cases q : c.rk with
      | own => rw [q] at K2; exact ⟨K2.1, fun a ha => ⟨back a (K2.2 a ha).1, (K2.2 a ha).2⟩⟩
      | sh =>
        rw [q] at K2
        intro a ha
        rcases K2 a ha with z | z
        · exact s.s2 a z
        · exact .inr (back a z)
      | bor => trivial
      | any => trivial
/-- a slot may be forgotten, or be less its own -/
def wk1 : M → M → Bool
  | _, .dead => true
  | .own, _ => true
  | .sh, .sh => true
  | .sh, .bor => true
  | .bor, .bor => true
  | _, _ => false
def wk : List M → List M → Bool
  | [], [] => true
  | m :: ms, n :: ns => wk1 m n && wk ms ns
  | _, _ => false
theorem Sl.more {g g' : List Addr} {ns ow} (h : Sl cm (Z.add g) H ns σ env ow) : Sl cm (Z.add (g' ++ g)) H ns σ env ow :=
  h.mono (fun a q => q.elim .inl fun q => .inr (List.mem_append_right _ q)) (fun a q => q.elim .inl fun q => .inr (List.mem_append_right _ q))
theorem Sl.weak (hs : ∀ a, Z.s a → Z.n a) (h : Sl cm Z H ms σ env OW) : ∀ ns, wk ms ns = true → ∃ OW' g, Sl cm (Z.add g) H ns σ env OW' ∧ (∀ a ∈ OW', a ∈ OW) ∧ (∀ a ∈ g, a ∈ OW) ∧ (OW.Nodup → OW'.Nodup ∧ ∀ a ∈ g, a ∉ OW') := by
  induction h with
  | nil =>
    intro ns e
    cases ns with
    | nil => exact ⟨[], [], .nil, (fun _ h => h), (fun _ h => h), fun h => ⟨h, fun a ha => by cases ha⟩⟩
    | cons _ _ => cases e
  | @dead ms σ env ow x0 y0 h ih =>
    intro ns e
    cases ns with
    | nil => cases e
    | cons n ns =>
      rw [wk, Bool.and_eq_true] at e
      obtain ⟨o, g, a, b, b2, c⟩ := ih ns e.2
      cases n with
      | dead => exact ⟨o, g, .dead a, b, b2, c⟩
      | _ => exact absurd e.1 (by decide)
  | @sh ms σ env ow v d f r z h ih =>
    intro ns e
    cases ns with
    | nil => cases e
    | cons n ns =>
      rw [wk, Bool.and_eq_true] at e
      obtain ⟨o, g, a, b, b2, c⟩ := ih ns e.2
      cases n with
      | dead => exact ⟨o, g, .dead a, b, b2, c⟩
      | sh => exact ⟨o, g, .sh r (fun a ha => .inl (z a ha)) a, b, b2, c⟩
      | bor => exact ⟨o, g, .bor r (fun a ha => .inl (hs a (z a ha))) a, b, b2, c⟩
      | _ => exact absurd e.1 (by decide)
  | @bor ms σ env ow v d f r z h ih =>
    intro ns e
    cases ns with
    | nil => cases e
    | cons n ns =>
      rw [wk, Bool.and_eq_true] at e
      obtain ⟨o, g, a, b, b2, c⟩ := ih ns e.2
      cases n with
      | dead => exact ⟨o, g, .dead a, b, b2, c⟩
      | bor => exact ⟨o, g, .bor r (fun a ha => .inl (z a ha)) a, b, b2, c⟩
      | _ => exact absurd e.1 (by decide)
  | @own ms σ env ow v d f r h ih =>
    intro ns e
    cases ns with
    | nil => cases e
    | cons n ns =>
      rw [wk, Bool.and_eq_true] at e
      obtain ⟨o, g, a, b, b2, c⟩ := ih ns e.2
      have fr : ∃ OW' g', Sl cm (Z.add g') H (.sh :: ns) (some v :: σ) (some d :: env) OW' ∧ Sl cm (Z.add g') H (.bor :: ns) (some v :: σ) (some d :: env) OW' ∧ (∀ a ∈ OW', a ∈ f ++ ow) ∧ (∀ a ∈ g', a ∈ f ++ ow) ∧ ((f ++ ow).Nodup → OW'.Nodup ∧ ∀ a ∈ g', a ∉ OW') := by
        refine ⟨o, f ++ g, .sh r (fun a ha => .inr (List.mem_append_left _ ha)) a.more, .bor r (fun a ha => .inr (List.mem_append_left _ ha)) a.more, fun x hx => List.mem_append_right _ (b x hx), fun x hx => ?_, fun n => ?_⟩
        · rcases List.mem_append.mp hx with hx | hx
          · exact List.mem_append_left _ hx
          · exact List.mem_append_right _ (b2 x hx)
        · obtain ⟨n1, n2, n3⟩ := List.nodup_append.mp n
          refine ⟨(c n2).1, fun x hx hy => ?_⟩
          rcases List.mem_append.mp hx with hx | hx
          · exact n3 x hx x (b x hy) rfl
          · exact (c n2).2 x hx hy
      cases n with
      | dead => exact ⟨o, g, .dead a, (fun x hx => List.mem_append_right _ (b x hx)), (fun x hx => List.mem_append_right _ (b2 x hx)), fun n => c (List.nodup_append.mp n).2.1⟩
      | own =>
        refine ⟨f ++ o, g, .own r a, fun x hx => ?_, (fun x hx => List.mem_append_right _ (b2 x hx)), fun n => ?_⟩
        · rcases List.mem_append.mp hx with hx | hx
          · exact List.mem_append_left _ hx
          · exact List.mem_append_right _ (b x hx)
        · obtain ⟨n1, n2, n3⟩ := List.nodup_append.mp n
          refine ⟨List.nodup_append.mpr ⟨n1, (c n2).1, fun x hx y hy => n3 x hx y (b y hy)⟩, fun x hx hy => ?_⟩
          rcases List.mem_append.mp hy with hy | hy
          · exact n3 x hy x (b2 x hx) rfl
          · exact (c n2).2 x hx hy
      | sh =>
        obtain ⟨o', g', q1, q2, q3⟩ := fr
        exact ⟨o', g', q1, q3⟩
      | bor =>
        obtain ⟨o', g', q1, q2, q3⟩ := fr
        exact ⟨o', g', q2, q3⟩
theorem ER.weak (E : ER cm ms Z H σ env OW) {ns : List M} (h : wk ms ns = true) : ∃ Z' OW', ER cm ns Z' H σ env OW' ∧ Stp Z OW H Z' OW' H := by
  obtain ⟨o, g, a, b, b2, c⟩ := E.sl.weak E.sub ns h
  obtain ⟨c1, c2⟩ := c E.nd
  refine ⟨Z.add g, o, ⟨a, c1, fun x hx => E.wr x (b x hx), fun x hx z => ?_, fun x z => ?_, fun x z => ?_⟩, ⟨fun x hx => .inl (b x hx), fun _ q => .inl q, fun _ q => .inl q, fun x q => ?_, fun x q => ?_, fun _ q => q⟩⟩
  · rcases z with z | z
    · exact E.dis x (b x hx) z
    · exact c2 x z hx
  · rcases z with z | z
    · exact E.tr x z
    · exact E.sl.trk x (b2 x z)
  · rcases z with z | z
    · exact .inl (E.sub x z)
    · exact .inr z
  · rcases q with q | q
    · exact .inl q
    · exact .inr (.inl (b2 x q))
  · rcases q with q | q
    · exact .inl q
    · exact .inr (.inl (b2 x q))
/-- an expression in a statement -/
def bS (r : Option (R D)) (env : EnvD) (g : D → Option Out) : Option Out := match r with
  | none => none
  | some (.ex c pl) => some (.ex c pl env)
  | some (.ok d) => g d
theorem XE.stm (a : XE) {k1 : Kd} {k : Option (List M)} {En : Ends} {g : D → Option Out} {T : V → Hp → Prop} (h1 : a.mo ms = some (k1, m1)) (hx : wk ms c.mx = true) (E : ER p.cm ms Z H σ env OW) (hP : PoS p c k Z H OW (bS (a.f env) env g) En)
    (hok : ∀ d v H1 f1 Z1 OW1, a.f env = some (.ok d) → Same H H1 → Stp Z OW H Z1 OW1 H1 → ER p.cm m1 Z1 H1 σ env OW1 → RpL p.cm H1 [v] [d] f1 → KdOk k1 OW H Z1 OW1 H1 f1 → PoS p c k Z H OW (g d) En → T v H1) : a.t p σ H T := by
  refine a.ok p ms k1 m1 h1 Z H σ env OW T E ?_
  cases q : a.f env with
  | none => rw [q] at hP; exact hP
  | some r =>
    rw [q] at hP
    cases r with
    | ex cl pl =>
      intro dd H1 e1 x
      obtain ⟨Z1, OW1, E1, hs⟩ := (E.same e1).weak hx
      exact hP dd σ H1 Z1 OW1 (Same.fr e1) ((Stp.same e1).trans hs) E1 x
    | ok d => exact fun v H1 f1 Z1 OW1 e s E1 r1 k1 => hok d v H1 f1 Z1 OW1 q e s E1 r1 k1 hP
theorem XT.stm (a : XT) {k : Option (List M)} {En : Ends} {g : Bool → Option Out} {T : Bool → Hp → Prop} (h1 : a.mo ms = some m1) (hx : wk ms c.mx = true) (E : ER p.cm ms Z H σ env OW) (hP : PoS p c k Z H OW (bS (a.f env) env fun d => match d with | .bl b => g b | _ => none) En)
    (hok : ∀ b H1 Z1 OW1, a.f env = some (.ok (.bl b)) → Same H H1 → Stp Z OW H Z1 OW1 H1 → ER p.cm m1 Z1 H1 σ env OW1 → PoS p c k Z H OW (g b) En → T b H1) : a.t p σ H T := by
  refine a.ok p ms m1 h1 Z H σ env OW T E ?_
  cases q : a.f env with
  | none => rw [q] at hP; exact hP
  | some r =>
    rw [q] at hP
    cases r with
    | ex cl pl =>
      intro dd H1 e1 x
      obtain ⟨Z1, OW1, E1, hs⟩ := (E.same e1).weak hx
      exact hP dd σ H1 Z1 OW1 (Same.fr e1) ((Stp.same e1).trans hs) E1 x
    | ok d =>
      intro v H1 f1 Z1 OW1 e s E1 r1 k1
      cases d with
      | bl b =>
        obtain ⟨rfl, rfl⟩ := r1.bl_of
        exact ⟨b, rfl, hok b H1 Z1 OW1 q e s E1 hP⟩
      | _ => exact hP.elim
end
/-! ### targets -/
def KdN (k : Kd) (Z : Zn) (OW : List Addr) (H : Hp) (g : List Addr) : Prop := match k with
  | .own => g.Nodup ∧ ∀ a ∈ g, a ∉ OW ∧ ¬ Z.n a ∧ WrA H a
  | .sh => ∀ a ∈ g, Z.s a
  | .bor => ∀ a ∈ g, Z.n a
  | .any => True
theorem KdOk.now {k : Kd} {OW H Z1 OW1 H1 f} (h : KdOk k OW H Z1 OW1 H1 f) : KdN k Z1 OW1 H1 f := by
  cases k with
  | own => exact ⟨h.1, fun a ha => ⟨(h.2 a ha).1, (h.2 a ha).2.1, (h.2 a ha).2.2.2⟩⟩
  | sh => exact h
  | bor => exact h
  | any => trivial
def mOf : Kd → Option M
  | .own => some .own
  | .sh => some .sh
  | .bor => some .bor
  | .any => none
theorem wipe_set {σ : L2.St} {i : Nat} {x : Option V} : ∀ l : List Nat, wipe (σ.set i x) l = if i ∈ l then wipe σ l else (wipe σ l).set i x
  | [] => by simp [wipe]
  | v :: l => by
    rw [wipe, wipe, wipe_set l]
    by_cases h : i ∈ l
    · rw [if_pos h, if_pos (List.mem_cons_of_mem _ h)]
    · rw [if_neg h]
      by_cases e : i = v
      · subst e
        rw [List.set_set, if_pos List.mem_cons_self]
      · rw [if_neg (by simp [e, h]), List.set_comm _ _ e]
structure XG where
  sl : List Nat
  t : Pm → TG
  f : D → EnvD → Option EnvD
  mo : Kd → List M → Option (List M)
  ok : ∀ p k ms ms', mo k ms = some ms' → ∀ Z H σ env OW v d g env' (Q : L2.St → Hp → Prop), ER p.cm ms Z H σ env OW → f d env = some env' → RpL p.cm H [v] [d] g → KdN k Z OW H g → (∀ σ' OW', ER p.cm ms' Z H σ' env' OW' → (∀ a ∈ OW', a ∈ OW ∨ (k = .own ∧ a ∈ g)) → (∀ l, (∀ i ∈ sl, i ∈ l) → wipe σ' l = wipe σ l) → Q σ' H) → t p v σ H Q
theorem ER.put {cm ms Z H σ env OW k v d g m} {i : Nat} (E : ER cm ms Z H σ env OW) (hi : i < ms.length) (r : RpL cm H [v] [d] g) (K : KdN k Z OW H g) (hm : mOf k = some m) :
    ∃ OW', ER cm (ms.set i m) Z H (σ.set i (some v)) (env.set i (some d)) OW' ∧ ∀ a ∈ OW', a ∈ OW ∨ (k = .own ∧ a ∈ g) := by
  obtain ⟨o, a, b, c⟩ := E.sl.kill i (some v) (some d)
  have hd : (ms.set i .dead)[i]? = some .dead := List.getElem?_set_self hi
  cases k with
  | own =>
    cases hm
    obtain ⟨o2, a2, b2, c2⟩ := a.put i v d g hd r
    rw [List.set_set, List.set_set, List.set_set] at a2
    have hs : ∀ x ∈ o2, x ∈ OW ∨ x ∈ g := fun x hx => by
      rcases b2 x hx with q | q
      · exact .inr q
      · exact .inl (b x q)
    refine ⟨o2, ⟨a2, c2 (c E.nd) K.1 fun x hx z => (K.2 x hx).1 (b x z), fun x hx => ?_, fun x hx => ?_, E.tr, E.sub⟩, fun x hx => ?_⟩
    · rcases hs x hx with q | q
      · exact E.wr x q
      · exact (K.2 x q).2.2
    · rcases hs x hx with q | q
      · exact E.dis x q
      · exact (K.2 x q).2.1
    · rcases hs x hx with q | q
      · exact .inl q
      · exact .inr ⟨rfl, q⟩
  | sh =>
    cases hm
    have a2 := (a.putS i v d g hd r).1 K
    rw [List.set_set, List.set_set, List.set_set] at a2
    exact ⟨o, ⟨a2, c E.nd, fun x hx => E.wr x (b x hx), fun x hx => E.dis x (b x hx), E.tr, E.sub⟩, fun x hx => .inl (b x hx)⟩
  | bor =>
    cases hm
    have a2 := (a.putS i v d g hd r).2 K
    rw [List.set_set, List.set_set, List.set_set] at a2
    exact ⟨o, ⟨a2, c E.nd, fun x hx => E.wr x (b x hx), fun x hx => E.dis x (b x hx), E.tr, E.sub⟩, fun x hx => .inl (b x hx)⟩
  | any => cases hm
def XG.n (i : Nat) : XG where
  sl := [i]
  t _ := gName i
  f d env := some (env.set i (some d))
  mo k ms := match mOf k with
    | some m => if i < ms.length then some (ms.set i m) else none
    | none => none
  ok p k ms ms' hm Z H σ env OW v d g env' Q E hf r K q := by
    split at hm
    · next m e =>
      split at hm
      · next hi =>
        cases hm
        cases hf
        obtain ⟨o, a, b⟩ := E.put hi r K e
        exact q _ o a b fun l hl => by rw [wipe_set, if_pos (hl i (by simp))]
      · cases hm
    · cases hm
/-- i, j = a pair -/
def XG.two (i j : Nat) : XG where
  sl := [i, j]
  t p := gTup p.cm.K 2 (gCons (gName i) (gCons (gName j) gNil))
  f d env := match d with
    | .tup [x, y] => some ((env.set i (some x)).set j (some y))
    | _ => none
  mo k ms := match mOf k with
    | some m => if i < ms.length ∧ j < ms.length then some ((ms.set i m).set j m) else none
    | none => none
  ok p k ms ms' hm Z H σ env OW v d g env' Q E hf r K q := by
    split at hm
    · next m e =>
      split at hm
      · next hi =>
        cases hm
        split at hf
        · next x y =>
          cases hf
          obtain ⟨a, us, rfl, rd, rr⟩ := r.tup_of
          obtain ⟨u1, us', g1, g2, rfl, rfl, r1, rr⟩ := rr.cons_of
          obtain ⟨u2, us'', g3, g4, rfl, rfl, r2, rr⟩ := rr.cons_of
          obtain ⟨rfl, rfl⟩ := rr.nil_of
          rw [List.append_nil] at K q
          have part : ∀ g', (∀ a ∈ g', a ∈ g1 ++ g3) → (( g1 ++ g3).Nodup → g'.Nodup) → KdN k Z OW H g' := fun g' s n => by
            cases k with
            | own => exact ⟨n K.1, fun a ha => K.2 a (s a ha)⟩
            | sh => exact fun a ha => K a (s a ha)
            | bor => exact fun a ha => K a (s a ha)
            | any => trivial
          have K1 := part g1 (fun a ha => List.mem_append_left _ ha) fun n => (List.nodup_append.mp n).1
          have K2 := part g3 (fun a ha => List.mem_append_right _ ha) fun n => (List.nodup_append.mp n).2.1
          obtain ⟨o, E1, s1⟩ := E.put hi.1 r1 K1 e
          have K2' : KdN k Z o H g3 := by
            cases k with
            | own =>
              refine ⟨K2.1, fun a ha => ⟨fun z => ?_, (K2.2 a ha).2⟩⟩
              rcases s1 a z with w | w
              · exact (K2.2 a ha).1 w
              · exact (List.nodup_append.mp K.1).2.2 a w.2 a ha rfl
            | sh => exact K2
            | bor => exact K2
            | any => trivial
          obtain ⟨o2, E2, s2⟩ := E1.put (i := j) (by rw [List.length_set]; exact hi.2) r2 K2' e
          refine ⟨a, [u1, u2], rfl, .inl rd, rfl, u1, [u2], rfl, u2, [], rfl, rfl, q _ o2 E2 (fun a ha => ?_) fun l hl => by rw [wipe_set, if_pos (hl j (by simp)), wipe_set, if_pos (hl i (by simp))]⟩
          rcases s2 a ha with z | z
          · rcases s1 a z with w | w
            · exact .inl w
            · exact .inr ⟨w.1, List.mem_append_left _ w.2⟩
          · exact .inr ⟨z.1, List.mem_append_right _ z.2⟩
        · cases hf
      · cases hm
    · cases hm
/-! ### statements one by one -/
def XS.asg (e : XE) (g : XG) : XS where
  t p := tAsg (e.t p) (g.t p)
  f env := bS (e.f env) env fun d => (g.f d env).map .nx
  mo c ms := match e.mo ms with
    | none => none
    | some (k, m1) => if wk ms c.mx then (g.mo k m1).map some else none
  ok p c ms k hm Z H σ env OW En E hP := by
    split at hm
    · cases hm
    · next k1 m1 h1 =>
      split at hm
      · next hx =>
        obtain ⟨m2, h2, rfl⟩ := Option.map_eq_some_iff.mp hm
        refine XE.stm e h1 hx E hP fun d v H1 f1 Z1 OW1 _ e1 s1 E1 r1 K1 hP1 => ?_
        cases q : g.f d env with
        | none => rw [q] at hP1; exact hP1.elim
        | some env' =>
          rw [q] at hP1
          refine g.ok p k1 m1 m2 h2 Z1 H1 σ env OW1 v d f1 env' _ E1 q r1 K1.now fun σ' OW' E' so _ => ?_
          refine hP1 m2 rfl σ' H1 Z1 OW' (Same.fr e1) ⟨fun a ha => ?_, s1.n1, s1.s1, s1.n2, s1.s2, s1.gro⟩ E'
          rcases so a ha with z | z
          · exact s1.ow a z
          · obtain ⟨rfl, z⟩ := z
            exact (K1.2 a z).2.2.1
      · cases hm
def XS.seq (a b : XS) : XS where
  t p := tSeq (a.t p) (b.t p)
  f env := match a.f env with
    | some (.nx env') => b.f env'
    | o => o
  mo c ms := match a.mo c ms with
    | none => none
    | some none => some none
    | some (some m1) => b.mo c m1
  ok p c ms k hm Z H σ env OW En E hP := by
    split at hm
    · cases hm
    · next h1 =>
      cases hm
      refine a.ok p c ms none h1 Z H σ env OW _ E ?_
      cases q : a.f env with
      | none => rw [q] at hP; exact hP
      | some o =>
        rw [q] at hP
        cases o with
        | nx env' => exact fun ms' z => by cases z
        | _ => exact hP
    · next m1 h1 =>
      refine a.ok p c ms (some m1) h1 Z H σ env OW _ E ?_
      cases q : a.f env with
      | none => rw [q] at hP; exact hP
      | some o =>
        rw [q] at hP
        cases o with
        | nx env' =>
          intro ms' z σ' H' Z' OW' e1 s1 E1
          cases z
          exact b.ok p c m1 k hm Z' H' σ' env' OW' En E1 (PoS.after hP e1 s1)
        | _ => exact hP
def XS.skip : XS where
  t _ := tNext
  f env := some (.nx env)
  mo c ms := some (some ms)
  ok p c ms k hm Z H σ env OW En E hP := by
    cases hm
    exact hP ms rfl σ H Z OW (fun _ _ h _ => h) Stp.refl E
def kLe : Kd → Kd → Bool
  | .own, _ => true
  | .sh, .own => false
  | .sh, _ => true
  | .bor, .own => false
  | .bor, .sh => false
  | _, .own => false
  | _, .sh => false
  | _, _ => true
def XS.ret (e : XE) : XS where
  t p := tRet (e.t p)
  f env := bS (e.f env) env fun d => some (.rt d)
  mo c ms := match e.mo ms with
    | none => none
    | some (k, m1) => if wk ms c.mx && kLe k c.rk then some none else none
  ok p c ms k hm Z H σ env OW En E hP := by
    split at hm
    · cases hm
    · next k1 m1 h1 =>
      split at hm
      · next hx =>
        cases hm
        rw [Bool.and_eq_true] at hx
        refine XE.stm e h1 hx.1 E hP fun d v H1 f1 Z1 OW1 _ e1 s1 E1 r1 K1 hP1 => ?_
        refine hP1 v H1 f1 (Same.fr e1) r1 ?_
        have hk := hx.2
        cases q : c.rk with
        | own =>
          rw [q] at hk
          cases k1 with
          | own => exact ⟨K1.1, fun a ha => ⟨(K1.2 a ha).2.2.1, (K1.2 a ha).2.2.2⟩⟩
          | _ => cases hk
        | sh =>
          rw [q] at hk
          cases k1 with
          | own => exact fun a ha => .inr (K1.2 a ha).2.2.1
          | sh => exact fun a ha => s1.s2 a (K1 a ha)
          | _ => cases hk
        | bor => trivial
        | any => trivial
      · cases hm
def XS.retN : XS where
  t _ := tRetN
  f env := some (.rt .non)
  mo c ms := some none
  ok p c ms k hm Z H σ env OW En E hP := by
    cases hm
    refine hP .non H [] (fun _ _ h _ => h) (RpL.at rfl) ?_
    cases c.rk with
    | own => exact ⟨List.nodup_nil, fun a ha => by cases ha⟩
    | sh => exact fun a ha => by cases ha
    | bor => trivial
    | any => trivial
def XS.expr (e : XE) : XS where
  t p := tDrop (e.t p)
  f env := bS (e.f env) env fun d => some (.nx env)
  mo c ms := match e.mo ms with
    | none => none
    | some (k, m1) => if wk ms c.mx then some (some m1) else none
  ok p c ms k hm Z H σ env OW En E hP := by
    split at hm
    · cases hm
    · next k1 m1 h1 =>
      split at hm
      · next hx =>
        cases hm
        refine XE.stm e h1 hx E hP fun d v H1 f1 Z1 OW1 _ e1 s1 E1 r1 K1 hP1 => ?_
        exact hP1 m1 rfl σ H1 Z1 OW1 (Same.fr e1) s1 E1
      · cases hm
def bB (r : Option (R D)) (env : EnvD) (g : Bool → Option Out) : Option Out := bS r env fun d => match d with | .bl b => g b | _ => none
def meet1 : M → M → M
  | .own, .own => .own
  | .dead, _ => .dead
  | _, .dead => .dead
  | .bor, _ => .bor
  | _, .bor => .bor
  | _, _ => .sh
def meet : List M → List M → List M
  | m :: ms, n :: ns => meet1 m n :: meet ms ns
  | _, _ => []
def mergeM : Option (List M) → Option (List M) → Option (List M)
  | none, x => x
  | some m, none => some m
  | some m, some n => some (meet m n)
def wkO : Option (List M) → Option (List M) → Bool
  | none, _ => true
  | some m, some n => wk m n
  | some _, none => false
theorem PoS.more {p : Pm} {c : Cm} {k k' : Option (List M)} {Z : Zn} {H : Hp} {OW : List Addr} {o : Option Out} {En : Ends} (h : PoS p c k' Z H OW o En) (e : wkO k k' = true) : PoS p c k Z H OW o En := by
  cases o with
  | none => exact h
  | some o =>
    cases o with
    | nx env' =>
      intro ms' q σ' H' Z' OW' e1 s1 E1
      subst q
      cases k' with
      | none => cases e
      | some n =>
        obtain ⟨Z2, OW2, E2, s2⟩ := E1.weak e
        exact h n rfl σ' H' Z2 OW2 e1 (s1.trans s2) E2
    | _ => exact h
def XS.ite (e : XT) (a b : XS) : XS where
  t p := tIfS (e.t p) (a.t p) (b.t p)
  f env := bB (e.f env) env fun x => if x then a.f env else b.f env
  mo c ms := match e.mo ms with
    | none => none
    | some m1 => if wk ms c.mx then match a.mo c m1, b.mo c m1 with
        | some k1, some k2 => if wkO k1 (mergeM k1 k2) && wkO k2 (mergeM k1 k2) then some (mergeM k1 k2) else none
        | _, _ => none
      else none
  ok p c ms k hm Z H σ env OW En E hP := by
    split at hm
    · cases hm
    · next m1 h1 =>
      split at hm
      · next hx =>
        split at hm
        · next k1 k2 ha hb =>
          split at hm
          case isFalse => cases hm
          next hw =>
          cases hm
          rw [Bool.and_eq_true] at hw
          obtain ⟨l1, l2⟩ := hw
          refine XT.stm e (g := fun x => if x then a.f env else b.f env) h1 hx E hP fun x H1 Z1 OW1 _ e1 s1 E1 hP1 => ?_
          cases x with
          | true =>
            rw [if_pos rfl]
            exact a.ok p c m1 k1 ha Z1 H1 σ env OW1 En E1 (PoS.more (PoS.after hP1 (Same.fr e1) s1) l1)
          | false =>
            rw [if_neg Bool.false_ne_true]
            exact b.ok p c m1 k2 hb Z1 H1 σ env OW1 En E1 (PoS.more (PoS.after hP1 (Same.fr e1) s1) l2)
        · cases hm
      · cases hm
def XS.brk : XS where
  t _ := tBreak
  f env := some (.bk env)
  mo c ms := if wk ms c.mb then some none else none
  ok p c ms k hm Z H σ env OW En E hP := by
    split at hm
    · next h =>
      cases hm
      obtain ⟨Z1, OW1, E1, hs⟩ := E.weak h
      exact hP σ H Z1 OW1 (fun _ _ h _ => h) hs E1
    · cases hm
def XS.cont : XS where
  t _ := tCont
  f env := some (.ct env)
  mo c ms := if wk ms c.mc then some none else none
  ok p c ms k hm Z H σ env OW En E hP := by
    split at hm
    · next h =>
      cases hm
      obtain ⟨Z1, OW1, E1, hs⟩ := E.weak h
      exact hP σ H Z1 OW1 (fun _ _ h _ => h) hs E1
    · cases hm
end DL
set_option maxRecDepth 100000
namespace DL
open PySem PySem.Spec PyProof.Rows L2
/-! ### what is walked -/
def ItOk (cm : CM) (J : It) (kd : Kd) (Z : Zn) (OW : List Addr) (H : Hp) (ds : List D) : Prop :=
  ∀ Z1 OW1 H1, Fr OW H H1 → Stp Z OW H Z1 OW1 H1 → (∀ i d, ds[i]? = some d → J.go i H1 ∧ ∀ x H2, J.yld i H1 x H2 → Same H1 H2 ∧ ∃ g, RpL cm H2 [x] [d] g ∧ (kd = .own → g = []) ∧ KdN kd Z1 OW1 H2 g) ∧ ∀ i, ds.length ≤ i → J.stop i H1
def PoI (p : Pm) (kd : Kd) (ms' : List M) (Z : Zn) (H : Hp) (σ : L2.St) (env : EnvD) (OW : List Addr) (r : Option (R (List D))) (Q : It → Hp → Prop) : Prop :=
  match r with
  | none => False
  | some (.ok ds) => ∀ J H' Z' OW', Same H H' → Stp Z OW H Z' OW' H' → ER p.cm ms' Z' H' σ env OW' → ItOk p.cm J kd Z' OW' H' ds → Q J H'
  | some (.ex c pl) => ∀ dd H', Same H H' → ExD p.cm H' dd pl → p.W (.ref (p.cm.c c)) dd σ H'
structure XI where
  t : Pm → TI
  f : EnvD → Option (R (List D))
  mo : List M → Option (Kd × List M)
  ok : ∀ p ms kd ms', mo ms = some (kd, ms') → ∀ Z H σ env OW R, ER p.cm ms Z H σ env OW → PoI p kd ms' Z H σ env OW (f env) R → t p σ H R
/-- the items of a list or tuple; im: all of them data that don't change -/
def itemsF (im : Bool) (d : D) : Option (R (List D)) := match d with
  | .lst ds => if !im || immL ds then some (.ok ds) else none
  | .tup ds => if !im || immL ds then some (.ok ds) else none
  | _ => none
def bI (r : Option (R D)) (g : D → Option (R (List D))) : Option (R (List D)) := match r with
  | none => none
  | some (.ex c p) => some (.ex c p)
  | some (.ok d) => g d
def moI (im : Bool) (tup : Bool) (r : Option (Kd × List M)) : Option (Kd × List M) := match r with
  | none => none
  | some (k, m1) => match k with
    | .own => some (if im then .own else .sh, m1)
    | .sh => some (if im then .own else .sh, m1)
    | .bor => some (if im then .own else .bor, m1)
    | .any => if im && tup then some (.own, m1) else none
theorem immL_get {ds : List D} : immL ds = true → ∀ {i : Nat} {d : D}, ds[i]? = some d → immD d = true := by
  induction ds with
  | nil => intro _ i d e; simp at e
  | cons x xs ih =>
    intro h i d e
    rw [immL, Bool.and_eq_true] at h
    cases i with
    | zero => simp at e; subst e; exact h.1
    | succ i => exact ih h.2 (by simpa using e)
theorem KdN.nil (k : Kd) {Z OW H} : KdN k Z OW H [] := by
  cases k with
  | own => exact ⟨List.nodup_nil, fun a ha => by cases ha⟩
  | sh => exact fun a ha => by cases ha
  | bor => exact fun a ha => by cases ha
  | any => trivial
section
variable {cm : CM} {Z Z1 : Zn} {OW OW1 : List Addr} {H H1 : Hp}
/-- what is stable stands later on -/
theorem rd_later {a : Addr} {u : HO} (fr : Fr OW H H1) (h : Rd H a u) (na : a ∉ OW) : Rd H1 a u := by
  rcases h with h | ⟨o, h⟩
  · exact .inl (fr a _ h na)
  · exact .inr ⟨o, fr a _ h na⟩
theorem frz_later {a : Addr} {o : Obj} {u : HO} (fr : Fr OW H H1) (h : H a = some (.frz o u)) (w : ∀ a ∈ OW, WrA H a) : H1 a = some (.frz o u) :=
  fr a _ h fun z => by
    obtain ⟨x, e, wx⟩ := w a z
    rw [h] at e; cases e; exact wx
theorem RpL.later {vs ds f} (h : RpL cm H vs ds f) (fr : Fr OW H H1) (n : ∀ a ∈ f, a ∉ OW) (w : ∀ a ∈ OW, WrA H a) : RpL cm H1 vs ds f :=
  h.keep (fun a u ha r _ => rd_later fr r (n a ha)) (fun a us r => rd_later fr r fun z => by
    obtain ⟨u, e, wu⟩ := w a z
    rcases r with r | ⟨o, r⟩
    · rw [e] at r; cases r; exact wu
    · rw [e] at r; cases r; exact wu) fun a o us r => frz_later fr r w
end
theorem atV_some {xs : List V} {i : Nat} {x : V} (h : xs[i]? = some x) : i < xs.length := by
  rcases Nat.lt_or_ge i xs.length with q | q
  · exact q
  · rw [List.getElem?_eq_none q] at h; cases h
theorem rd_inj {H : Hp} {a : Addr} {u w : List V} (h1 : Rd H a (.lst u)) (h2 : Rd H a (.lst w)) : u = w := by
  rcases h1 with h1 | ⟨o, h1⟩ <;> rcases h2 with h2 | ⟨o2, h2⟩ <;> rw [h1] at h2 <;> cases h2 <;> rfl
theorem rd_injT {H : Hp} {a : Addr} {u w : List V} (h1 : Rd H a (.tup u)) (h2 : Rd H a (.tup w)) : u = w := by
  rcases h1 with h1 | ⟨o, h1⟩ <;> rcases h2 with h2 | ⟨o2, h2⟩ <;> rw [h1] at h2 <;> cases h2 <;> rfl

theorem itOk_seq {cm : CM} {K : PySem.W.Frag} {ms : List M} {σ : L2.St} {env : EnvD} {Z : Zn} {OW : List Addr} {H : Hp} {kd : Kd} {a : Addr} {us : List V} {ds : List D} {g : List Addr} {J : It} (E : ER cm ms Z H σ env OW) (r : RpL cm H us ds g)
    (ng : ∀ x ∈ g, x ∉ OW) (kk : g = [] ∨ ((kd = .sh ∧ ∀ x ∈ g, Z.s x) ∨ (kd = .bor ∧ ∀ x ∈ g, Z.n x)))
    (hJ : ∀ H1, Fr OW H H1 → (∀ i v, us[i]? = some v → J.go i H1 ∧ ∀ x H2, J.yld i H1 x H2 → H2 = H1 ∧ x = v) ∧ ∀ i, us.length ≤ i → J.stop i H1) : ItOk cm J kd Z OW H ds := by
  intro Z1 OW1 H1 fr s
  have r1 := r.later fr ng E.wr
  obtain ⟨h1, h2⟩ := hJ H1 fr
  refine ⟨fun i d e => ?_, fun i hi => h2 i (by rw [r.length]; exact hi)⟩
  obtain ⟨v, g', ev, rv, sub, _⟩ := r1.get i d e
  obtain ⟨go, y⟩ := h1 i v ev
  refine ⟨go, fun x H2 hy => ?_⟩
  obtain ⟨rfl, rfl⟩ := y x H2 hy
  refine ⟨Same.refl _, g', rv, ?_⟩
  rcases kk with kk | ⟨rfl, kk⟩ | ⟨rfl, kk⟩
  · subst kk
    have : g' = [] := by
      cases g' with
      | nil => rfl
      | cons x _ => exact absurd (sub x List.mem_cons_self) (by simp)
    subst this
    exact ⟨fun _ => rfl, KdN.nil _⟩
  · exact ⟨(fun z => by cases z), fun x hx => s.s1 x (kk x (sub x hx))⟩
  · exact ⟨(fun z => by cases z), fun x hx => s.n1 x (kk x (sub x hx))⟩
theorem list_J {K : PySem.W.Frag} {OW : List Addr} {H : Hp} {a : Addr} {us : List V} (rd : (Rd H a (.lst us) ∧ a ∉ OW) ∨ SqF K H a us) (hw : ∀ b ∈ OW, WrA H b) : ∀ H1, Fr OW H H1 → (∀ i v, us[i]? = some v → (Itl K a).go i H1 ∧ ∀ x H2, (Itl K a).yld i H1 x H2 → H2 = H1 ∧ x = v) ∧ ∀ i, us.length ≤ i → (Itl K a).stop i H1 := by
  intro H1 fr
  have rd1 : SqL K H1 a us := by
    rcases rd with ⟨rd, na⟩ | rd
    · exact .inl (rd_later fr rd na)
    · have z : SqF K H1 a us := rd.imp (fun ⟨o, z⟩ => ⟨o, frz_later fr z hw⟩) id
      exact z.sq
  refine ⟨fun i v e => ⟨⟨us, v, rd1, e⟩, fun x H2 hy => ⟨hy.1, ?_⟩⟩, fun i hi => ⟨us, rd1, hi⟩⟩
  have := hy.2 us rd1
  rw [e] at this; exact (Option.some.inj this).symm
theorem tup_J {K : PySem.W.Frag} {OW : List Addr} {H : Hp} {a : Addr} {us : List V} (rd : Rd H a (.tup us)) (na : a ∉ OW) : ∀ H1, Fr OW H H1 → (∀ i v, us[i]? = some v → (Itt K a).go i H1 ∧ ∀ x H2, (Itt K a).yld i H1 x H2 → H2 = H1 ∧ x = v) ∧ ∀ i, us.length ≤ i → (Itt K a).stop i H1 := by
  intro H1 fr
  have rd1 := rd_later fr rd na
  refine ⟨fun i v e => ⟨⟨us, v, .inl rd1, e⟩, fun x H2 hy => ⟨hy.1, ?_⟩⟩, fun i hi => ⟨us, .inl rd1, hi⟩⟩
  have := hy.2 us (.inl rd1)
  rw [e] at this; exact (Option.some.inj this).symm
theorem tup_notOwn {cm ms Z H σ env OW} (E : ER cm ms Z H σ env OW) {a : Addr} {us : List V} (rd : Rd H a (.tup us)) : a ∉ OW := fun z => by
  obtain ⟨u, e, w⟩ := E.wr a z
  rcases rd with r | ⟨o, r⟩
  · rw [e] at r; cases r; exact w
  · rw [e] at r; cases r; exact w
/-- what a kind lets a walk assume -/
theorem walkKd {p : Pm} {cm ms Z H σ env OW Z1 H1 OW1 f k kd ms'} {im tp : Bool} (E1 : ER cm ms' Z1 H1 σ env OW1) (s1 : Stp Z OW H Z1 OW1 H1) (K1 : KdOk k OW H Z1 OW1 H1 f) (t : ∀ a ∈ f, H1 a ≠ none) (hm : moI im tp (some (k, ms')) = some (kd, ms)) :
    ∃ Z2, Stp Z OW H Z2 OW1 H1 ∧ ER cm ms' Z2 H1 σ env OW1 ∧ ms = ms' ∧ (k ≠ .any → ∀ a ∈ f, a ∉ OW1) ∧ (k = .any → im = true ∧ tp = true) ∧ (im = true → kd = .own) ∧ (im = false → (kd = .sh ∧ ∀ a ∈ f, Z2.s a) ∨ (kd = .bor ∧ ∀ a ∈ f, Z2.n a)) := by
  cases k with
  | own =>
    obtain ⟨Z2, s2, E2, K2, _⟩ := K1.weak (k2 := .sh) s1 E1 t rfl
    unfold moI at hm
    cases im with
    | true => cases hm; exact ⟨Z2, s2, E2, rfl, fun _ a ha => (K1.2 a ha).1, (fun z => by cases z), fun _ => rfl, fun z => by cases z⟩
    | false => cases hm; exact ⟨Z2, s2, E2, rfl, fun _ a ha => (K1.2 a ha).1, (fun z => by cases z), (fun z => by cases z), fun _ => .inl ⟨rfl, K2⟩⟩
  | sh =>
    unfold moI at hm
    have nn : ∀ a ∈ f, a ∉ OW1 := fun a ha z => E1.dis a z (E1.sub a (K1 a ha))
    cases im with
    | true => cases hm; exact ⟨Z1, s1, E1, rfl, fun _ => nn, (fun z => by cases z), fun _ => rfl, fun z => by cases z⟩
    | false => cases hm; exact ⟨Z1, s1, E1, rfl, fun _ => nn, (fun z => by cases z), (fun z => by cases z), fun _ => .inl ⟨rfl, K1⟩⟩
  | bor =>
    unfold moI at hm
    have nn : ∀ a ∈ f, a ∉ OW1 := fun a ha z => E1.dis a z (K1 a ha)
    cases im with
    | true => cases hm; exact ⟨Z1, s1, E1, rfl, fun _ => nn, (fun z => by cases z), fun _ => rfl, fun z => by cases z⟩
    | false => cases hm; exact ⟨Z1, s1, E1, rfl, fun _ => nn, (fun z => by cases z), (fun z => by cases z), fun _ => .inr ⟨rfl, K1⟩⟩
  | any =>
    unfold moI at hm
    cases im with
    | true =>
      cases tp with
      | true => cases hm; exact ⟨Z1, s1, E1, rfl, fun z => absurd rfl z, fun _ => ⟨rfl, rfl⟩, fun _ => rfl, fun z => by cases z⟩
      | false => cases hm
    | false => cases hm
theorem XE.itm (a : XE) {p : Pm} {ms m1 m2 : List M} {Z : Zn} {H : Hp} {σ : L2.St} {env : EnvD} {OW : List Addr} {k1 kd : Kd} {R : It → Hp → Prop} {g : D → Option (DL.R (List D))} {T : V → Hp → Prop} (h1 : a.mo ms = some (k1, m1)) (E : ER p.cm ms Z H σ env OW) (hP : PoI p kd m2 Z H σ env OW (bI (a.f env) g) R)
    (hok : ∀ d v H1 f1 Z1 OW1, a.f env = some (.ok d) → Same H H1 → Stp Z OW H Z1 OW1 H1 → ER p.cm m1 Z1 H1 σ env OW1 → RpL p.cm H1 [v] [d] f1 → KdOk k1 OW H Z1 OW1 H1 f1 → PoI p kd m2 Z H σ env OW (g d) R → T v H1) : a.t p σ H T := by
  refine a.ok p ms k1 m1 h1 Z H σ env OW T E ?_
  cases q : a.f env with
  | none => rw [q] at hP; exact hP
  | some r =>
    rw [q] at hP
    cases r with
    | ex c pl => exact hP
    | ok d => exact fun v H1 f1 Z1 OW1 e s E1 r1 k1 => hok d v H1 f1 Z1 OW1 q e s E1 r1 k1 hP
def listF (im : Bool) : D → Option (R (List D))
  | .lst ds => if !im || immL ds then some (.ok ds) else none
  | .scr ds => some (.ok ds)
  | _ => none
def tupF (im : Bool) : D → Option (R (List D))
  | .tup ds => if !im || immL ds then some (.ok ds) else none
  | _ => none
def XI.lst (im : Bool) (a : XE) : XI where
  t p := iList p.cm.K (a.t p)
  f env := bI (a.f env) (listF im)
  mo ms := moI im false (a.mo ms)
  ok p ms kd ms' hm Z H σ env OW R E hP := by
    cases ha : a.mo ms with
    | none => rw [ha] at hm; cases hm
    | some km =>
      obtain ⟨k, m1⟩ := km
      rw [ha] at hm
      refine XE.itm a ha E hP fun d v H1 f1 Z1 OW1 _ e1 s1 E1 r1 K1 hP1 => ?_
      cases d with
      | lst ds =>
        have hP1 : PoI p kd ms' Z H σ env OW (if !im || immL ds then some (.ok ds) else none) R := hP1
        by_cases c : (!im || immL ds) = true
        · rw [if_pos c] at hP1
          have tr1 := r1.trk
          obtain ⟨a', us, g, rfl, rd, rr, rfl⟩ := r1.lst_of
          obtain ⟨Z2, s2, E2, rfl, nn, na, k1, k2⟩ := walkKd (p := p) E1 s1 K1 tr1 hm
          have kn : k ≠ .any := fun z => Bool.false_ne_true (na z).2
          refine ⟨a', rfl, ⟨us, .inl rd⟩, hP1 _ H1 Z2 OW1 e1 s2 E2 (itOk_seq (K := p.cm.K) (a := a') E2 rr (fun x hx => nn kn x (List.mem_cons_of_mem _ hx)) ?_ (list_J (.inl ⟨rd, nn kn a' List.mem_cons_self⟩) E2.wr))⟩
          cases im with
          | true =>
            have c' : immL ds = true := by simpa using c
            exact .inl (rr.imm c')
          | false =>
            rcases k2 rfl with ⟨q1, q2⟩ | ⟨q1, q2⟩
            · exact .inr (.inl ⟨q1, fun x hx => q2 x (List.mem_cons_of_mem _ hx)⟩)
            · exact .inr (.inr ⟨q1, fun x hx => q2 x (List.mem_cons_of_mem _ hx)⟩)
        · rw [if_neg c] at hP1; exact hP1.elim
      | scr ds =>
        obtain ⟨a', us, rfl, rd, rr, rfl⟩ := r1.scr_of
        obtain ⟨Z2, s2, E2, rfl, nn, na, k1, k2⟩ := walkKd (p := p) E1 s1 K1 (fun a ha => by cases ha) hm
        exact ⟨a', rfl, ⟨us, rd.sq⟩, hP1 _ H1 Z2 OW1 e1 s2 E2 (itOk_seq (K := p.cm.K) (a := a') E2 rr (fun x hx => by cases hx) (.inl rfl) (list_J (.inr rd) E2.wr))⟩
      | _ => exact hP1.elim
def XI.tup (im : Bool) (a : XE) : XI where
  t p := iTup p.cm.K (a.t p)
  f env := bI (a.f env) (tupF im)
  mo ms := moI im true (a.mo ms)
  ok p ms kd ms' hm Z H σ env OW R E hP := by
    cases ha : a.mo ms with
    | none => rw [ha] at hm; cases hm
    | some km =>
      obtain ⟨k, m1⟩ := km
      rw [ha] at hm
      refine XE.itm a ha E hP fun d v H1 f1 Z1 OW1 _ e1 s1 E1 r1 K1 hP1 => ?_
      cases d with
      | tup ds =>
        have hP1 : PoI p kd ms' Z H σ env OW (if !im || immL ds then some (.ok ds) else none) R := hP1
        by_cases c : (!im || immL ds) = true
        · rw [if_pos c] at hP1
          have tr1 := r1.trk
          obtain ⟨a', us, rfl, rd, rr⟩ := r1.tup_of
          obtain ⟨Z2, s2, E2, rfl, nn, na, k1, k2⟩ := walkKd (p := p) E1 s1 K1 tr1 hm
          have kk : f1 = [] ∨ (k ≠ .any ∧ ((kd = .sh ∧ ∀ x ∈ f1, Z2.s x) ∨ (kd = .bor ∧ ∀ x ∈ f1, Z2.n x))) := by
            cases im with
            | true =>
              have c' : immL ds = true := by simpa using c
              exact .inl (rr.imm c')
            | false => exact .inr ⟨fun z => Bool.false_ne_true (na z).1, k2 rfl⟩
          refine ⟨a', rfl, ⟨us, .inl rd⟩, hP1 _ H1 Z2 OW1 e1 s2 E2 (itOk_seq (K := p.cm.K) (a := a') E2 rr (fun x hx => ?_) (kk.imp id (·.2)) (tup_J rd (tup_notOwn E2 rd)))⟩
          rcases kk with kk | kk
          · subst kk; cases hx
          · exact nn kk.1 x hx
        · rw [if_neg c] at hP1; exact hP1.elim
      | _ => exact hP1.elim
/-! ### range -/
def rgD (lo : Int) (n : Nat) : List D := (List.range n).map fun (i : Nat) => D.int (lo + (i : Int))
def inB (i : Int) : Bool := Nat.blt i.natAbs 4611686018427387904
theorem itOk_rng {cm : CM} {Z : Zn} {OW : List Addr} {H : Hp} (lo : Int) (n : Nat) : ItOk cm (Itr lo n) .own Z OW H (rgD lo n) := by
  intro Z1 OW1 H1 fr s
  refine ⟨fun i d e => ?_, fun i hi => ?_⟩
  · unfold rgD at e
    rw [List.getElem?_map] at e
    obtain ⟨j, e1, rfl⟩ := Option.map_eq_some_iff.mp e
    have hj : i < n ∧ j = i := by
      rcases Nat.lt_or_ge i n with q | q
      · rw [List.getElem?_range q] at e1
        cases e1
        exact ⟨q, rfl⟩
      · rw [List.getElem?_eq_none (by simpa using q)] at e1
        cases e1
    obtain ⟨hj, rfl⟩ := hj
    refine ⟨hj, fun x H2 y => ?_⟩
    obtain ⟨rfl, rfl⟩ := y
    exact ⟨Same.refl _, [], RpL.at rfl, (fun _ => rfl), KdN.nil _⟩
  · unfold rgD at hi
    have : n ≤ i := by simpa using hi
    exact this
def rg1F : List D → Option (R (List D))
  | [.int j] => if inB j then some (.ok (rgD 0 j.toNat)) else none
  | _ => none
def rg2F : List D → Option (R (List D))
  | [.int i, .int j] => if inB i && inB j then some (.ok (rgD i (j - i).toNat)) else none
  | _ => none
def bLI (r : Option (R (List D))) (g : List D → Option (R (List D))) : Option (R (List D)) := match r with
  | none => none
  | some (.ex c p) => some (.ex c p)
  | some (.ok d) => g d
theorem XA.itm (a : XA) {p : Pm} {ms m1 m2 : List M} {Z : Zn} {H : Hp} {σ : L2.St} {env : EnvD} {OW : List Addr} {k1 kd : Kd} {R : It → Hp → Prop} {g : List D → Option (DL.R (List D))} {T : List V → Hp → Prop} (h1 : a.mo ms = some (k1, m1)) (E : ER p.cm ms Z H σ env OW) (hP : PoI p kd m2 Z H σ env OW (bLI (a.f env) g) R)
    (hok : ∀ d v H1 f1 Z1 OW1, a.f env = some (.ok d) → Same H H1 → Stp Z OW H Z1 OW1 H1 → ER p.cm m1 Z1 H1 σ env OW1 → RpL p.cm H1 v d f1 → KdOk k1 OW H Z1 OW1 H1 f1 → PoI p kd m2 Z H σ env OW (g d) R → T v H1) : a.t p σ H T := by
  refine a.ok p ms k1 m1 h1 Z H σ env OW T E ?_
  cases q : a.f env with
  | none => rw [q] at hP; exact hP
  | some r =>
    rw [q] at hP
    cases r with
    | ex c pl => exact hP
    | ok d => exact fun v H1 f1 Z1 OW1 e s E1 r1 k1 => hok d v H1 f1 Z1 OW1 q e s E1 r1 k1 hP
theorem inB_of {i : Int} (h : inB i = true) : -(2 ^ 62) ≤ i ∧ i < 2 ^ 62 := by
  unfold inB at h
  have h' := Nat.blt_eq.mp h
  omega
def XI.r1 (a : XA) : XI where
  t p := iRng1 (a.t p)
  f env := bLI (a.f env) rg1F
  mo ms := (a.mo ms).map fun x => (.own, x.2)
  ok p ms kd ms' hm Z H σ env OW R E hP := by
    obtain ⟨⟨k, m1⟩, ha, he⟩ := Option.map_eq_some_iff.mp hm
    cases he
    refine XA.itm a ha E hP fun d v H1 f1 Z1 OW1 _ e1 s1 E1 r1 K1 hP1 => ?_
    unfold rg1F at hP1
    split at hP1
    · next j _ =>
      split at hP1
      · next c =>
        obtain ⟨v1, vs, g1, g2, rfl, rfl, q1, q2⟩ := r1.cons_of
        obtain ⟨rfl, rfl⟩ := q2.nil_of
        obtain ⟨rfl, rfl⟩ := q1.int_of
        exact ⟨j, rfl, (inB_of c).1, (inB_of c).2, hP1 _ H1 Z1 OW1 e1 s1 E1 (itOk_rng 0 _)⟩
      · exact hP1.elim
    · exact hP1.elim
def XI.r2 (a : XA) : XI where
  t p := iRng2 (a.t p)
  f env := bLI (a.f env) rg2F
  mo ms := (a.mo ms).map fun x => (.own, x.2)
  ok p ms kd ms' hm Z H σ env OW R E hP := by
    obtain ⟨⟨k, m1⟩, ha, he⟩ := Option.map_eq_some_iff.mp hm
    cases he
    refine XA.itm a ha E hP fun d v H1 f1 Z1 OW1 _ e1 s1 E1 r1 K1 hP1 => ?_
    unfold rg2F at hP1
    split at hP1
    · next i j _ =>
      split at hP1
      · next c =>
        rw [Bool.and_eq_true] at c
        obtain ⟨v1, vs, g1, g2, rfl, rfl, q1, q2⟩ := r1.cons_of
        obtain ⟨v2, vs, g3, g4, rfl, rfl, q3, q4⟩ := q2.cons_of
        obtain ⟨rfl, rfl⟩ := q4.nil_of
        obtain ⟨rfl, rfl⟩ := q1.int_of
        obtain ⟨rfl, rfl⟩ := q3.int_of
        exact ⟨i, j, rfl, ⟨(inB_of c.1).1, (inB_of c.1).2, (inB_of c.2).1, (inB_of c.2).2⟩, hP1 _ H1 Z1 OW1 e1 s1 E1 (itOk_rng i _)⟩
      · exact hP1.elim
    · exact hP1.elim
/-! ### for -/
def killE (l : List Nat) (env : EnvD) : EnvD := l.foldl (fun e i => e.set i none) env
/-- behind a turn -/
def loopK (o : Option Out) (next : EnvD → Option Out) (l : List Nat) : Option Out := match o with
  | some (.nx e) => next (killE l e)
  | some (.ct e) => next (killE l e)
  | some (.bk e) => some (.nx (killE l e))
  | o => o
def forD (bind : D → EnvD → Option EnvD) (body : EnvD → Option Out) (l : List Nat) : List D → EnvD → Option Out
  | [], env => some (.nx env)
  | d :: ds, env => match bind d env with
    | none => none
    | some e1 => loopK (body e1) (fun e => forD bind body l ds e) l
def allDead (l : List Nat) (ms : List M) : Bool := l.all fun i => ms[i]? == some .dead
theorem Sl.kill1 {cm Z H ms σ env OW} (h : Sl cm Z H ms σ env OW) : ∀ (i : Nat), ms[i]? = some .dead → Sl cm Z H ms σ (env.set i none) OW := by
  induction h with
  | nil => intro i e; simp at e
  | dead h ih =>
    intro i e
    cases i with
    | zero => exact .dead h
    | succ i => exact .dead (ih i (by simpa using e))
  | sh r z h ih =>
    intro i e
    cases i with
    | zero => simp at e
    | succ i => exact .sh r z (ih i (by simpa using e))
  | bor r z h ih =>
    intro i e
    cases i with
    | zero => simp at e
    | succ i => exact .bor r z (ih i (by simpa using e))
  | own r h ih =>
    intro i e
    cases i with
    | zero => simp at e
    | succ i => exact .own r (ih i (by simpa using e))
theorem ER.killE {cm ms Z H σ OW} : ∀ (l : List Nat) {env : EnvD}, ER cm ms Z H σ env OW → allDead l ms = true → ER cm ms Z H σ (killE l env) OW
  | [], _, E, _ => E
  | i :: l, env, E, h => by
    have h' : (ms[i]? == some .dead && allDead l ms) = true := h
    rw [Bool.and_eq_true] at h'
    have e : ms[i]? = some .dead := by simpa using h'.1
    exact ER.killE l ⟨E.sl.kill1 i e, E.nd, E.wr, E.dis, E.tr, E.sub⟩ h'.2
def bSI (r : Option (R (List D))) (env : EnvD) (g : List D → Option Out) : Option Out := match r with
  | none => none
  | some (.ex c pl) => some (.ex c pl env)
  | some (.ok d) => g d
theorem loop_ok {p : Pm} {c : Cm} {m1 : List M} {kb : Option (List M)} {Z1 Z' : Zn} {OW1 OW2 : List Addr} {H1 H2 : Hp} {o : Option Out} {next : EnvD → Option Out} {l : List Nat} {En : Ends} {N : L2.St → Hp → Prop}
    (hp : PoS p c (some m1) Z1 H1 OW1 (loopK o next l) En) (fr2 : Fr OW1 H1 H2) (st2 : Stp Z1 OW1 H1 Z' OW2 H2) (hl : allDead l m1 = true) (hw : ∀ m3, kb = some m3 → wk m3 m1 = true)
    (hN : ∀ σ3 H3 Z3 OW3 env3, Fr OW1 H1 H3 → Stp Z1 OW1 H1 Z3 OW3 H3 → ER p.cm m1 Z3 H3 σ3 env3 OW3 → PoS p c (some m1) Z1 H1 OW1 (next env3) En → N σ3 H3) :
    PoS p { c with mb := m1, mc := m1 } kb Z' H2 OW2 o { En with nx := N, ct := N, bk := En.nx } := by
  have hp2 := PoS.after hp fr2 st2
  cases o with
  | none => exact hp2.elim
  | some o =>
    cases o with
    | nx env'' =>
      intro m3 q3 σ3 H3 Z3 OW3 fr3 st3 E3
      obtain ⟨Z4, OW4, E4, st4⟩ := E3.weak (hw m3 q3)
      exact hN σ3 H3 Z4 OW4 (killE l env'') (fr2.trans st2 fr3) (st2.trans (st3.trans st4)) (ER.killE l E4 hl) hp
    | ct env'' =>
      intro σ3 H3 Z3 OW3 fr3 st3 E3
      exact hN σ3 H3 Z3 OW3 (killE l env'') (fr2.trans st2 fr3) (st2.trans st3) (ER.killE l E3 hl) hp
    | bk env'' =>
      intro σ3 H3 Z3 OW3 fr3 st3 E3
      exact hp2 m1 rfl σ3 H3 Z3 OW3 fr3 st3 (ER.killE l E3 hl)
    | rt d => exact hp2
    | ex cl pl env'' => exact hp2
def moFor (g : XG) (body : XS) (l : List Nat) (c : Cm) (kd : Kd) (m1 : List M) : Bool :=
  allDead l m1 && match g.mo kd m1 with
    | none => false
    | some m2 => match body.mo { c with mb := m1, mc := m1 } m2 with
      | none => false
      | some none => true
      | some (some m3) => wk m3 m1
theorem moFor_of {g : XG} {body : XS} {l : List Nat} {c : Cm} {kd : Kd} {m1 : List M} (hc : moFor g body l c kd m1 = true) : allDead l m1 = true ∧ ∃ m2 kb, g.mo kd m1 = some m2 ∧ body.mo { c with mb := m1, mc := m1 } m2 = some kb ∧ ∀ m3, kb = some m3 → wk m3 m1 = true := by
  unfold moFor at hc
  rw [Bool.and_eq_true] at hc
  obtain ⟨hl, hc⟩ := hc
  split at hc
  · cases hc
  next m2 hg =>
  refine ⟨hl, m2, ?_⟩
  split at hc
  · cases hc
  · next q => exact ⟨none, hg, q, fun m3 z => by cases z⟩
  · next m3 q => exact ⟨some m3, hg, q, fun m4 z => by cases z; exact hc⟩
/-- the walk of a for, whatever is walked -/
theorem for_run {p : Pm} {c : Cm} {g : XG} {body : XS} {l : List Nat} {kd : Kd} {m1 : List M} (hc : moFor g body l c kd m1 = true) {J : It} {Z1 : Zn} {OW1 : List Addr} {H1 : Hp} {σ : L2.St} {env : EnvD} {ds : List D} {En : Ends}
    (E1 : ER p.cm m1 Z1 H1 σ env OW1) (hJ : ItOk p.cm J kd Z1 OW1 H1 ds) (hP1 : PoS p c (some m1) Z1 H1 OW1 (forD g.f body.f l ds env) En) :
    ∃ W : Nat → Nat → L2.St → Hp → Prop, (∃ m, W 0 m σ H1) ∧ ∀ i m σ H, W i m σ H →
      (J.stop i H ∧ En.nx σ H) ∨ (J.go i H ∧ ∃ N : L2.St → Hp → Prop, (∀ σ' H', N σ' H' → ∃ m', m' < m ∧ W (i + 1) m' σ' H') ∧ ∀ x H', J.yld i H x H' → (g.t p) x σ H' fun σ2 H2 => (body.t p) { En with nx := N, ct := N, bk := En.nx } σ2 H2) := by
  obtain ⟨hl, m2, kb, hg, hb, hw⟩ := moFor_of hc
  refine ⟨fun i m σ' H' => m = ds.length - i ∧ i ≤ ds.length ∧ ∃ Z' OW' env', Fr OW1 H1 H' ∧ Stp Z1 OW1 H1 Z' OW' H' ∧ ER p.cm m1 Z' H' σ' env' OW' ∧ PoS p c (some m1) Z1 H1 OW1 (forD g.f body.f l (ds.drop i) env') En,
    ⟨ds.length, by simp, Nat.zero_le _, Z1, OW1, env, (fun _ _ h _ => h), Stp.refl, E1, hP1⟩, ?_⟩
  rintro i m σ' H' ⟨rfl, hi, Z', OW', env', fr, st, E', hp⟩
  obtain ⟨hgo, hstop⟩ := hJ Z' OW' H' fr st
  by_cases hlt : i < ds.length
  · right
    have ed : ds[i]? = some ds[i] := List.getElem?_eq_getElem hlt
    obtain ⟨go, y⟩ := hgo i _ ed
    rw [List.drop_eq_getElem_cons hlt] at hp
    refine ⟨go, fun σ'' H'' => ds.length - (i + 1) = ds.length - (i + 1) ∧ i + 1 ≤ ds.length ∧ ∃ Z' OW' env', Fr OW1 H1 H'' ∧ Stp Z1 OW1 H1 Z' OW' H'' ∧ ER p.cm m1 Z' H'' σ'' env' OW' ∧ PoS p c (some m1) Z1 H1 OW1 (forD g.f body.f l (ds.drop (i + 1)) env') En, fun σ'' H'' hN => ⟨ds.length - (i + 1), by omega, hN⟩, fun x H2 hy => ?_⟩
    obtain ⟨e2, gg, rx, Kown, Kx⟩ := y x H2 hy
    have hp' : PoS p c (some m1) Z1 H1 OW1 (match g.f ds[i] env' with
      | none => none
      | some e1 => loopK (body.f e1) (fun e => forD g.f body.f l (ds.drop (i + 1)) e) l) En := hp
    cases qb : g.f ds[i] env' with
    | none => rw [qb] at hp'; exact hp'.elim
    | some ev =>
      rw [qb] at hp'
      refine g.ok p kd m1 m2 hg Z' H2 σ' env' OW' x ds[i] gg ev _ (E'.same e2) qb rx Kx fun σ2 OW2 E2 so _ => ?_
      have so' : ∀ a ∈ OW2, a ∈ OW' := fun a ha => by
        rcases so a ha with z | ⟨z, za⟩
        · exact z
        · rw [Kown z] at za; cases za
      have st2 : Stp Z1 OW1 H1 Z' OW2 H2 := by
        have s3 := st.trans (Stp.same e2)
        exact ⟨fun a ha => s3.ow a (so' a ha), s3.n1, s3.s1, s3.n2, s3.s2, s3.gro⟩
      have fr2 : Fr OW1 H1 H2 := fr.trans st (Same.fr e2)
      refine body.ok p { c with mb := m1, mc := m1 } m2 kb hb Z' H2 σ2 ev OW2 _ E2 ?_
      exact loop_ok hp' fr2 st2 hl hw fun σ3 H3 Z3 OW3 env3 a1 a2 a3 a4 => ⟨rfl, hlt, Z3, OW3, env3, a1, a2, a3, a4⟩
  · left
    have e : i = ds.length := by omega
    subst e
    rw [List.drop_length] at hp
    exact ⟨hstop _ (Nat.le_refl _), hp m1 rfl σ' H' Z' OW' fr st E'⟩
def XS.for_ (it : XI) (g : XG) (body : XS) (l : List Nat) : XS where
  t p := tFor (it.t p) (g.t p) (body.t p)
  f env := bSI (it.f env) env fun ds => forD g.f body.f l ds env
  mo c ms := match it.mo ms with
    | none => none
    | some (kd, m1) => if wk ms c.mx && moFor g body l c kd m1 then some (some m1) else none
  ok p c ms k hm Z H σ env OW En E hP := by
    split at hm
    · cases hm
    · next kd m1 h1 =>
      split at hm
      case isFalse => cases hm
      next hc =>
      cases hm
      rw [Bool.and_eq_true] at hc
      obtain ⟨hx, hc⟩ := hc
      refine it.ok p ms kd m1 h1 Z H σ env OW _ E ?_
      cases q : it.f env with
      | none => rw [q] at hP; exact hP
      | some r =>
        rw [q] at hP
        cases r with
        | ex cl pl =>
          intro dd H1 e1 x
          obtain ⟨Z1, OW1, E1, hs⟩ := (E.same e1).weak hx
          exact hP dd σ H1 Z1 OW1 (Same.fr e1) ((Stp.same e1).trans hs) E1 x
        | ok ds =>
          have hP : PoS p c (some m1) Z H OW (forD g.f body.f l ds env) En := hP
          intro J H1 Z1 OW1 e1 s1 E1 hJ
          exact for_run hc E1 hJ (PoS.after hP (Same.fr e1) s1)
/-! ### while -/
def whlD (c : EnvD → Option (R D)) (body : EnvD → Option Out) (l : List Nat) : Nat → EnvD → Option Out
  | 0, _ => none
  | n + 1, env => bB (c env) env fun b => if b then loopK (body env) (fun e => whlD c body l n e) l else some (.nx env)
def moWhl (e : XT) (body : XS) (l : List Nat) (c : Cm) (ms : List M) : Bool :=
  allDead l ms && wk ms c.mx && (match e.mo ms with
    | none => false
    | some m1 => m1 == ms) && match body.mo { c with mb := ms, mc := ms } ms with
      | none => false
      | some none => true
      | some (some m3) => wk m3 ms
def XS.whl (n : EnvD → Nat) (e : XT) (body : XS) (l : List Nat) : XS where
  t p := tWhile (e.t p) (body.t p)
  f env := whlD e.f body.f l (n env) env
  mo c ms := if moWhl e body l c ms then some (some ms) else none
  ok p c ms k hm Z H σ env OW En E hP := by
    split at hm
    case isFalse => cases hm
    next hc =>
    cases hm
    unfold moWhl at hc
    rw [Bool.and_eq_true, Bool.and_eq_true, Bool.and_eq_true] at hc
    obtain ⟨⟨⟨hl, hx⟩, he⟩, hb⟩ := hc
    have he : e.mo ms = some ms := by
      split at he
      · cases he
      · next q => rw [q]; exact congrArg some (by simpa using he)
    have hb : ∃ kb, body.mo { c with mb := ms, mc := ms } ms = some kb ∧ ∀ m3, kb = some m3 → wk m3 ms = true := by
      split at hb
      · cases hb
      · next q => exact ⟨none, q, fun m3 z => by cases z⟩
      · next m3 q => exact ⟨some m3, q, fun m4 z => by cases z; exact hb⟩
    obtain ⟨kb, hb, hw⟩ := hb
    refine ⟨fun m σ' H' => ∃ Z' OW' env', Fr OW H H' ∧ Stp Z OW H Z' OW' H' ∧ ER p.cm ms Z' H' σ' env' OW' ∧ PoS p c (some ms) Z H OW (whlD e.f body.f l m env') En,
      ⟨n env, Z, OW, env, (fun _ _ h _ => h), Stp.refl, E, hP⟩, ?_⟩
    rintro m σ' H' ⟨Z', OW', env', fr, st, E', hp⟩
    cases m with
    | zero => exact hp.elim
    | succ m =>
      have hp1 := PoS.after hp fr st
      refine XT.stm e (k := some ms) (En := En) (g := fun b => if b then loopK (body.f env') (fun e' => whlD e.f body.f l m e') l else some (.nx env')) he hx E' hp1 fun b H1 Z1 OW1 qe e1 s1 E1 hP1 => ?_
      have hp0 : PoS p c (some ms) Z H OW (if b then loopK (body.f env') (fun e' => whlD e.f body.f l m e') l else some (.nx env')) En := by
        have z : PoS p c (some ms) Z H OW (bB (e.f env') env' fun b => if b then loopK (body.f env') (fun e' => whlD e.f body.f l m e') l else some (.nx env')) En := hp
        rw [qe] at z
        exact z
      have fr1 : Fr OW H H1 := fr.trans st (Same.fr e1)
      have st1 := st.trans s1
      cases b with
      | false =>
        rw [if_neg Bool.false_ne_true] at *
        exact hp0 ms rfl σ' H1 Z1 OW1 fr1 st1 E1
      | true =>
        rw [if_pos rfl] at *
        refine ⟨fun σ3 H3 => ∃ Z' OW' env', Fr OW H H3 ∧ Stp Z OW H Z' OW' H3 ∧ ER p.cm ms Z' H3 σ3 env' OW' ∧ PoS p c (some ms) Z H OW (whlD e.f body.f l m env') En, fun σ3 H3 hN => ⟨m, Nat.lt_succ_self m, hN⟩, ?_⟩
        refine body.ok p { c with mb := ms, mc := ms } ms kb hb Z1 H1 σ' env' OW1 _ E1 ?_
        exact loop_ok hp0 fr1 st1 hl hw fun σ3 H3 Z3 OW3 env3 a1 a2 a3 a4 => ⟨Z3, OW3, env3, a1, a2, a3, a4⟩
end DL
set_option maxRecDepth 100000
namespace DL
open PySem PySem.Spec PyProof.Rows L2
/-! ### functions -/
structure PF where
  pk : List Bool
  rk : Kd
  F : List D → Option (R D)
inductive RpA (cm : CM) (H : Hp) : List V → List D → List (List Addr) → Prop
  | nil : RpA cm H [] [] []
  | cons {v vs d ds f fs} : RpL cm H [v] [d] f → RpA cm H vs ds fs → RpA cm H (v :: vs) (d :: ds) (f :: fs)
def shp : List Bool → List (List Addr) → List Addr
  | b :: bs, f :: fs => (if b then f else []) ++ shp bs fs
  | _, _ => []
def RkF (rk : Kd) (T : List Addr) (H H' : Hp) (g : List Addr) : Prop := match rk with
  | .own => g.Nodup ∧ ∀ a ∈ g, H a = none ∧ WrA H' a
  | .sh => ∀ a ∈ g, a ∈ T ∨ H a = none
  | _ => True
/-- what a function is worth -/
def spP (cm : CM) (f : PF) : Sp := fun vs H Q E => ∃ ds fps, RpA cm H vs ds fps ∧ ds.length = f.pk.length ∧
  match f.F ds with
  | none => False
  | some (.ok d) => ∀ v H' g, Same H H' → RpL cm H' [v] [d] g → RkF f.rk (shp f.pk fps) H H' g → Q v H'
  | some (.ex c pl) => ∀ dd H', Same H H' → ExD cm H' dd pl → E (.ref (cm.c c)) dd H'
theorem RpA.same {cm H H' vs ds fs} (h : RpA cm H vs ds fs) (e : Same H H') : RpA cm H' vs ds fs := by
  induction h with
  | nil => exact .nil
  | cons r _ ih => exact .cons (r.same e) ih
theorem RpA.lens {cm H vs ds fs} (h : RpA cm H vs ds fs) : vs.length = ds.length ∧ fs.length = ds.length := by
  induction h with
  | nil => exact ⟨rfl, rfl⟩
  | cons _ _ ih => exact ⟨congrArg (· + 1) ih.1, congrArg (· + 1) ih.2⟩
def PoC (p : Pm) (pk : List Bool) (ms' : List M) (Z : Zn) (H : Hp) (σ : L2.St) (env : EnvD) (OW : List Addr) (r : Option (R (List D))) (Q : List V → Hp → Prop) : Prop :=
  match r with
  | none => False
  | some (.ok ds) => ∀ vs H' fps Z' OW', Same H H' → Stp Z OW H Z' OW' H' → ER p.cm ms' Z' H' σ env OW' → RpA p.cm H' vs ds fps → (∀ a ∈ shp pk fps, Z'.s a) → ds.length = pk.length → Q vs H'
  | some (.ex c pl) => ∀ dd H', Same H H' → ExD p.cm H' dd pl → p.W (.ref (p.cm.c c)) dd σ H'
structure XC where
  pk : List Bool
  t : Pm → TA
  f : EnvD → Option (R (List D))
  mo : List M → Option (List M)
  ok : ∀ p ms ms', mo ms = some ms' → ∀ Z H σ env OW Q, ER p.cm ms Z H σ env OW → PoC p pk ms' Z H σ env OW (f env) Q → t p σ H Q
def XC.nil : XC where
  pk := []
  t _ := tNil
  f _ := some (.ok [])
  mo ms := some ms
  ok p ms ms' hm Z H σ env OW Q E hP := by
    cases hm
    exact hP [] H [] Z OW (Same.refl H) Stp.refl E .nil (fun a ha => by cases ha) rfl
/-- an argument; b: it may be handed on -/
def XC.cons (b : Bool) (a : XE) (as : XC) : XC where
  pk := b :: as.pk
  t p := tCons (a.t p) (as.t p)
  f env := bA (a.f env) (as.f env)
  mo ms := match a.mo ms with
    | none => none
    | some (k, m1) => if !b || leK k .sh then as.mo m1 else none
  ok p ms ms' hm Z H σ env OW Q E hP := by
    split at hm
    · cases hm
    · next k m1 h1 =>
      split at hm
      case isFalse => cases hm
      next hb =>
      refine a.ok p ms k m1 h1 Z H σ env OW _ E ?_
      cases q : a.f env with
      | none => rw [q] at hP; exact hP
      | some r =>
        rw [q] at hP
        cases r with
        | ex c pl => exact hP
        | ok d =>
          intro v H1 f1 Z1 OW1 e1 s1 E1 r1 K1
          have hz : ∃ Z2, Stp Z OW H Z2 OW1 H1 ∧ ER p.cm m1 Z2 H1 σ env OW1 ∧ (b = true → ∀ a ∈ f1, Z2.s a) := by
            cases b with
            | false => exact ⟨Z1, s1, E1, fun z => by cases z⟩
            | true =>
              obtain ⟨Z2, a1, a2, a3, _⟩ := K1.weak (k2 := .sh) s1 E1 r1.trk (by simpa using hb)
              exact ⟨Z2, a1, a2, fun _ => a3⟩
          obtain ⟨Z2, s2, E2, hs⟩ := hz
          refine as.ok p m1 ms' hm Z2 H1 σ env OW1 _ E2 ?_
          cases q2 : as.f env with
          | none => rw [q2] at hP; exact hP
          | some r2 =>
            rw [q2] at hP
            cases r2 with
            | ex c pl => exact fun dd H' e' x => hP dd H' (e1.trans e') x
            | ok ds =>
              intro vs H2 fps Z3 OW3 e3 s3 E3 r3 h3 hl
              refine hP (v :: vs) H2 (f1 :: fps) Z3 OW3 (e1.trans e3) (s2.trans s3) E3 (.cons (r1.same e3) r3) (fun x hx => ?_) (congrArg (· + 1) hl)
              rcases List.mem_append.mp hx with hx | hx
              · cases b with
                | false => cases hx
                | true => exact s3.s1 x (hs rfl x hx)
              · exact h3 x hx
def XE.call (f : PF) (as : XC) : XE where
  t p := tCallS (spP p.cm f) (WE p.W) (as.t p)
  f env := bL (as.f env) f.F
  mo ms := match as.mo ms with
    | none => none
    | some m1 => if as.pk = f.pk ∧ f.rk ≠ .bor then some (f.rk, m1) else none
  ok p ms k ms' hm Z H σ env OW Q E hP := by
    split at hm
    · cases hm
    · next m1 h1 =>
      split at hm
      case isFalse => cases hm
      next hpk' =>
      have hpk := hpk'.1
      have hk : k = f.rk := by cases hm; rfl
      have hm1 : ms' = m1 := by cases hm; rfl
      subst hk hm1
      refine as.ok p ms ms' h1 Z H σ env OW _ E ?_
      cases q : as.f env with
      | none => rw [q] at hP; exact hP
      | some r =>
        rw [q] at hP
        cases r with
        | ex c pl => exact hP
        | ok ds =>
          intro vs H1 fps Z1 OW1 e1 s1 E1 r1 h1 hl
          have hP : PoE p f.rk ms' Z H σ env OW (f.F ds) Q := hP
          refine ⟨ds, fps, r1, by rw [hl, hpk], ?_⟩
          cases qf : f.F ds with
          | none => rw [qf] at hP; exact hP
          | some r2 =>
            rw [qf] at hP
            cases r2 with
            | ex c pl => exact fun dd H' e' x => hP dd H' (e1.trans e') x
            | ok d =>
              intro v H2 g e2 rv K2
              rw [hpk] at h1
              have s2 := s1.trans (Stp.same e2)
              have E2 := E1.same e2
              have fin : ∀ Z2, Stp Z OW H Z2 OW1 H2 → ER p.cm ms' Z2 H2 σ env OW1 → KdOk f.rk OW H Z2 OW1 H2 g → Q v H2 := fun Z2 a b c => hP v H2 g Z2 OW1 (e1.trans e2) a b rv c
              cases qk : f.rk with
              | own =>
                rw [qk] at K2 fin
                refine fin Z1 s2 E2 ⟨K2.1, fun a ha => ⟨fun z => E1.sl.trk a z (K2.2 a ha).1, fun z => E1.tr a z (K2.2 a ha).1, .inr (hn_of s1.gro (K2.2 a ha).1), (K2.2 a ha).2⟩⟩
              | sh =>
                rw [qk] at K2 fin
                have fact : ∀ a ∈ g.filter (fun a => (H1 a).isNone), a ∈ g ∧ H1 a = none := fun a ha => by
                  obtain ⟨x, y⟩ := List.mem_filter.mp ha
                  exact ⟨x, by simpa using y⟩
                refine fin (Z1.add (g.filter fun a => (H1 a).isNone)) (s2.share fun a ha => .inr (hn_of s1.gro (fact a ha).2)) (E2.share fun a ha => ⟨fun z => E1.sl.trk a z (fact a ha).2, rv.trk a (fact a ha).1⟩) fun a ha => ?_
                rcases K2 a ha with z | z
                · exact .inl (h1 a z)
                · exact .inr (List.mem_filter.mpr ⟨ha, by rw [z]; rfl⟩)
              | bor => exact absurd qk hpk'.2
              | any =>
                rw [qk] at fin
                exact fin Z1 s2 E2 trivial
def runD (B : XS) (m : Nat) (ds : List D) : Option (R D) := match B.f (ds.map some ++ List.replicate m none) with
  | some (.rt d) => some (.ok d)
  | some (.nx _) => some (.ok .non)
  | some (.ex c pl _) => some (.ex c pl)
  | _ => none
def ms0 (pk : List Bool) (m : Nat) : List M := pk.map (fun b => if b then M.sh else M.bor) ++ List.replicate m .dead
def c0 (rk : Kd) (n : Nat) : Cm := ⟨rk, [], [], List.replicate n .dead⟩
theorem Sl.deads {cm Z H} : ∀ m, Sl cm Z H (List.replicate m .dead) (List.replicate m none) (List.replicate m none) []
  | 0 => .nil
  | m + 1 => .dead (Sl.deads m)
theorem Sl.args {cm : CM} {Z : Zn} {H : Hp} {m : Nat} {vs ds fps} (r : RpA cm H vs ds fps) : ∀ pk : List Bool, ds.length = pk.length → (∀ a ∈ shp pk fps, Z.s a) → (∀ a, H a ≠ none → Z.n a) →
    Sl cm Z H (ms0 pk m) (vs.map some ++ List.replicate m none) (ds.map some ++ List.replicate m none) [] := by
  induction r with
  | nil =>
    intro pk hl hs hn
    cases pk with
    | nil => exact Sl.deads m
    | cons _ _ => cases hl
  | cons r _ ih =>
    intro pk hl hs hn
    cases pk with
    | nil => cases hl
    | cons b bs =>
      have ih' := ih bs (Nat.succ.inj hl) (fun a ha => hs a (List.mem_append_right _ ha)) hn
      cases b with
      | true => exact .sh r (fun a ha => hs a (List.mem_append_left _ ha)) ih'
      | false => exact .bor r (fun a ha => hn a (r.trk a ha)) ih'
theorem shp_sub {cm : CM} {H : Hp} {vs ds fps} (r : RpA cm H vs ds fps) : ∀ pk, ∀ a ∈ shp pk fps, H a ≠ none := by
  induction r with
  | nil => intro pk a ha; cases pk <;> cases ha
  | cons r _ ih =>
    intro pk a ha
    cases pk with
    | nil => cases ha
    | cons b bs =>
      rcases List.mem_append.mp ha with ha | ha
      · cases b with
        | true => exact r.trk a ha
        | false => cases ha
      · exact ih bs a ha
/-- A def's body: its promise from its modes -/
theorem fn_body {cm : CM} {B : XS} {pk : List Bool} {rk : Kd} {m : Nat} {k : Option (List M)} (hm : B.mo (c0 rk (pk.length + m)) (ms0 pk m) = some k) {vs : List V} {H : Hp} {Q : VK} {E : XK} {N : List Str} (hN : N.length = pk.length + m)
    (h : spP cm ⟨pk, rk, runD B m⟩ vs H Q E) : B.t ⟨fun cls d _ H => E cls d H, cm⟩ { nx := fun _ H' => Q .non H', rt := Q } (L2.start N vs) H := by
  obtain ⟨ds, fps, r, hl, hF⟩ := h
  have hl' : ds.length = pk.length := hl
  have lv : vs.length = pk.length := r.lens.1.trans hl'
  have es : L2.start N vs = vs.map some ++ List.replicate m none := by
    unfold L2.start
    rw [hN, lv, Nat.add_sub_cancel_left]
  rw [es]
  have E0 : ER cm (ms0 pk m) ⟨fun a => a ∈ shp pk fps, fun a => H a ≠ none⟩ H (vs.map some ++ List.replicate m none) (ds.map some ++ List.replicate m none) [] :=
    ⟨Sl.args r pk hl' (fun a ha => ha) (fun a ha => ha), List.nodup_nil, (fun a ha => by cases ha), (fun a ha => by cases ha), (fun a ha => ha), shp_sub r pk⟩
  refine B.ok ⟨fun cls d _ H => E cls d H, cm⟩ (c0 rk (pk.length + m)) (ms0 pk m) k hm _ H _ _ [] _ E0 ?_
  have sam : ∀ H', Fr [] H H' → Same H H' := fun H' fr a o e => fr a o e (by simp)
  unfold runD at hF
  cases q : B.f (ds.map some ++ List.replicate m none) with
  | none => simp only [q] at hF
  | some o =>
    cases o with
    | nx env' =>
      simp only [q] at hF
      intro ms' _ σ' H' Z' OW' fr _ _
      refine hF .non H' [] (sam H' fr) (RpL.at rfl) ?_
      cases rk with
      | own => exact ⟨List.nodup_nil, fun a ha => by cases ha⟩
      | sh => exact fun a ha => by cases ha
      | bor => trivial
      | any => trivial
    | rt d =>
      simp only [q] at hF
      intro v H' g fr rv K
      refine hF v H' g (sam H' fr) rv ?_
      cases rk with
      | own => exact ⟨K.1, fun a ha => ⟨(K.2 a ha).1.elim (fun z => by cases z) id, (K.2 a ha).2⟩⟩
      | sh =>
        intro a ha
        rcases K a ha with z | z | z
        · exact .inl z
        · cases z
        · exact .inr z
      | bor => trivial
      | any => trivial
    | bk env' => simp only [q] at hF
    | ct env' => simp only [q] at hF
    | ex c pl env' =>
      simp only [q] at hF
      exact fun dd σ' H' Z' OW' fr _ _ x => hF dd H' (sam H' fr) x
theorem spP_len {cm : CM} {f : PF} {vs H Q E} (h : spP cm f vs H Q E) : vs.length = f.pk.length := by
  obtain ⟨ds, fps, r, hl, _⟩ := h
  exact r.lens.1.trans hl
section
variable {P : Program} {w : World} {K : PySem.W.Frag} {mg : Str → Option Value} {base : Heap}
/-- a def keeps its promise -/
theorem fn_okX {cm : CM} {x qual : Str} {st : Stmt} {f : Addr} {fd : FuncData} {N ps : List Str} {k : Nat} {B : XS} {pk : List Bool} {rk : Kd} {m : Nat} {km : Option (List M)} (F : Fun K x qual st f fd) (S : FnScope N ps (defScope st))
    (hN : N.length = pk.length + m) (hp : ps.length = pk.length) (hm : B.mo (c0 rk (pk.length + m)) (ms0 pk m) = some km)
    (hb : ∀ (cdv : Value) (A : Around) (outer : List Env) (s : Shared) (H : Hp) (E : XK), Room k (A.deeper (envOfC qual (defScope st) s.heap.objs.size f cdv)) →
      ∃ t, PSs (cxOf (L2.CX P w) P w K mg base N qual (defScope st) f cdv A outer s H E) (defBody st) t ∧ ∀ D σ H', B.t ⟨fun cls d _ H => E cls d H, cm⟩ D σ H' → t D σ H') :
    FnOk P w K mg base (L2.CX P w) (k + 1) f fd ps (spP cm ⟨pk, rk, runD B m⟩) :=
  F.okX S (fun vs H Q E h => by rw [hp]; exact spP_len h) fun cdv A outer s H vs Q E hr h => by
    obtain ⟨t, ht, hq⟩ := hb cdv A outer s H E hr
    exact ⟨t, ht, hq _ _ _ (fn_body hm hN h)⟩
/-- the law's def: nothing leaves it -/
theorem fn_ok0 {cm : CM} {x qual : Str} {st : Stmt} {f : Addr} {fd : FuncData} {N ps : List Str} {k : Nat} {B : XS} {pk : List Bool} {rk : Kd} {m : Nat} {km : Option (List M)} (F : Fun K x qual st f fd) (S : FnScope N ps (defScope st))
    (hN : N.length = pk.length + m) (hp : ps.length = pk.length) (hm : B.mo (c0 rk (pk.length + m)) (ms0 pk m) = some km)
    (hb : ∀ (cdv : Value) (A : Around) (outer : List Env) (s : Shared) (H : Hp) (E : XK), Room k (A.deeper (envOfC qual (defScope st) s.heap.objs.size f cdv)) →
      ∃ t, PSs (cxOf CX0 P w K mg base N qual (defScope st) f cdv A outer s H E).nox (defBody st) t ∧ ∀ D σ H', B.t ⟨fun _ _ _ _ => False, cm⟩ D σ H' → t D σ H') :
    FnOk P w K mg base CX0 (k + 1) f fd ps (fun vs H Q _ => spP cm ⟨pk, rk, runD B m⟩ vs H Q fun _ _ _ => False) :=
  F.ok S (fun vs H Q E h => by rw [hp]; exact spP_len h) fun cdv A outer s H vs Q E hr h => by
    obtain ⟨t, ht, hq⟩ := hb cdv A outer s H E hr
    exact ⟨t, ht, hq _ _ _ (fn_body hm hN h)⟩
end
end DL
set_option maxRecDepth 100000
namespace DL
open PySem PySem.Spec PyProof.Rows L2
/-! ### list comprehensions -/
def lend1 : M → M
  | .own => .bor
  | m => m
def lendM (ms : List M) : List M := ms.map lend1
def Zn.lend (Z : Zn) (OW : List Addr) : Zn := ⟨Z.s, fun a => Z.n a ∨ a ∈ OW⟩
theorem Sl.lend {cm Z H ms σ env ow} (OW : List Addr) (h : Sl cm Z H ms σ env ow) : (∀ a ∈ ow, a ∈ OW) → Sl cm (Z.lend OW) H (lendM ms) σ env [] := by
  induction h with
  | nil => exact fun _ => .nil
  | dead _ ih => exact fun q => .dead (ih q)
  | sh r z _ ih => exact fun q => .sh r z (ih q)
  | bor r z _ ih => exact fun q => .bor r (fun a ha => .inl (z a ha)) (ih q)
  | own r _ ih => exact fun q => .bor r (fun a ha => .inr (q a (List.mem_append_left _ ha))) (ih fun a ha => q a (List.mem_append_right _ ha))
theorem ER.lend {cm ms Z H σ env OW} (E : ER cm ms Z H σ env OW) : ER cm (lendM ms) (Z.lend OW) H σ env [] :=
  ⟨E.sl.lend OW (fun a ha => ha), List.nodup_nil, (fun a ha => by cases ha), (fun a ha => by cases ha), (fun a q => q.elim (E.tr a) (E.sl.trk a)), fun a q => .inl (E.sub a q)⟩
theorem Sl.set_dead {cm Z H ms σ env ow} (h : Sl cm Z H ms σ env ow) : ∀ (i : Nat) (x : Option V) (y : Option D), ow = [] → Sl cm Z H (ms.set i .dead) (σ.set i x) (env.set i y) [] := by
  intro i x y e
  subst e
  obtain ⟨o, a, b, _⟩ := h.kill i x y
  have : o = [] := by
    cases o with
    | nil => rfl
    | cons z _ => exact absurd (b z List.mem_cons_self) (by simp)
  subst this
  exact a
def killM (l : List Nat) (ms : List M) : List M := l.foldr (fun i e => e.set i .dead) ms
def wipeE (env : EnvD) : List Nat → EnvD
  | [] => env
  | v :: vs => (wipeE env vs).set v none
theorem Sl.wipe {cm Z H ms σ env} (h : Sl cm Z H ms σ env []) : ∀ l : List Nat, Sl cm Z H (killM l ms) (L2.wipe σ l) (wipeE env l) []
  | [] => h
  | v :: vs => (Sl.wipe h vs).set_dead v none none rfl
theorem wipe_idem (σ : L2.St) (l : List Nat) : L2.wipe (L2.wipe σ l) l = L2.wipe σ l := by
  have key : ∀ (l m : List Nat), (∀ i ∈ m, i ∈ l) → L2.wipe (L2.wipe σ m) l = L2.wipe σ l := by
    intro l m
    induction m with
    | nil => intro _; rfl
    | cons v vs ih =>
      intro h
      rw [show L2.wipe σ (v :: vs) = (L2.wipe σ vs).set v none from rfl, wipe_set, if_pos (h v List.mem_cons_self)]
      exact ih fun i hi => h i (List.mem_cons_of_mem _ hi)
  exact key l l fun i hi => hi
def p0 (p : Pm) : Pm := ⟨fun _ _ _ _ => False, p.cm⟩
def okOf {α : Type} (r : Option (R α)) : Option α := match r with
  | some (.ok d) => some d
  | _ => none
/-- the items of a comprehension, behind acc -/
def compB (r : Option (R D)) (t : Option (List D)) (f : Option (List D)) : Option (List D) := match r with
  | some (.ok (.bl true)) => t
  | some (.ok (.bl false)) => f
  | _ => none
def compX (r : Option (R D)) (acc : List D) (next : List D → Option (List D)) : Option (List D) := match r with
  | some (.ok x) => if acc.length < sizeLine then next (acc ++ [x]) else none
  | _ => none
def compD (bind : D → EnvD → Option EnvD) (c : EnvD → Option (R D)) (e : EnvD → Option (R D)) (env : EnvD) : List D → List D → Option (List D)
  | [], acc => some acc
  | d :: ds, acc => match bind d env with
    | none => none
    | some e1 => compB (c e1) (compX (e e1) acc fun acc => compD bind c e env ds acc) (compD bind c e env ds acc)
def XT.yes : XT where
  t _ := tYes
  f _ := some (.ok (.bl true))
  mo ms := some ms
  ok p ms ms' hm Z H σ env OW Q E hP := by
    cases hm
    obtain ⟨c, e, q⟩ := hP _ H [] Z OW (Same.refl H) Stp.refl E (RpL.at rfl) (KdOk.nil _)
    cases e; exact q
def kOut : Kd → Option Kd
  | .own => some .own
  | .sh => some .sh
  | .bor => some .any
  | .any => none
def moLc (own : List Nat) (g : XG) (c : XT) (e : XE) (kd : Kd) (m1 : List M) : Option Kd :=
  if g.sl.all (fun i => own.contains i) then match g.mo kd (killM own (lendM m1)) with
    | none => none
    | some m2 => if c.mo m2 = some m2 then match e.mo m2 with
        | some (k, _) => kOut k
        | none => none
      else none
  else none
/-- the walk of a comprehension, whatever is walked -/
theorem lc_run {own : List Nat} {g : XG} {c : XT} {e : XE} {p : Pm} {kd k : Kd} {ms' msx : List M} (hk : moLc own g c e kd ms' = some k) {J : It} {Z Z1 : Zn} {H H1 : Hp} {σ : L2.St} {env : EnvD} {OW OW1 : List Addr} {Q : VK} {ds : List D}
    (E : ER p.cm msx Z H σ env OW) (hP : PoE p k msx Z H σ env OW ((compD g.f c.f e.f (wipeE env own) ds []).map fun ds => .ok (.lst ds)) Q) (e1 : Same H H1) (s1 : Stp (Z.lend OW) [] H Z1 OW1 H1) (E1 : ER p.cm ms' Z1 H1 σ env OW1) (hJ : ItOk p.cm J kd Z1 OW1 H1 ds) :
    tLc (fun _ _ R => R J H1) (g.t p) (c.t (p0 p)) (e.t (p0 p)) own σ H Q := by
  intro L hL
  unfold moLc at hk
  split at hk
  case isFalse => cases hk
  next hsl =>
  split at hk
  · cases hk
  next m2 hg =>
  split at hk
  case isFalse => cases hk
  next hc =>
  have hke : ∃ ke me, e.mo m2 = some (ke, me) ∧ kOut ke = some k := by
    split at hk
    · next ke me q => exact ⟨ke, me, q, hk⟩
    · cases hk
  obtain ⟨ke, me, hme, hko⟩ := hke
  have nany : ke ≠ .any := fun z => by subst z; cases hko
  cases qc : compD g.f c.f e.f (wipeE env own) ds [] with
  | none => rw [qc] at hP; exact hP.elim
  | some out =>
  rw [qc] at hP
  have nO : ∀ a, H1 a = none → a ∉ OW1 := fun a h z => E1.sl.trk a z h
  have nN : ∀ a, H1 a = none → ¬ Z1.n a := fun a h z => E1.tr a z h
  refine ⟨fun i m H' => m = ds.length - i ∧ i ≤ ds.length ∧ ∃ acc da ga, Same H1 H' ∧ H' L = some (.lst acc) ∧ RpL p.cm H' acc da ga ∧ compD g.f c.f e.f (wipeE env own) (ds.drop i) da = some out ∧
      (∀ a ∈ ga, a ≠ L) ∧ (ke = .own → ga.Nodup ∧ ∀ a ∈ ga, H1 a = none ∧ WrA H' a) ∧ (ke = .sh → ∀ a ∈ ga, Z1.s a ∨ H1 a = none),
    ⟨ds.length, by simp, Nat.zero_le _, [], [], [], same_upd hL, upd_same, .nil, qc, (fun a ha => by cases ha), (fun _ => ⟨List.nodup_nil, fun a ha => by cases ha⟩), fun _ a ha => by cases ha⟩, ?_⟩
  rintro i m H' ⟨rfl, hi, acc, da, ga, sm, hLl, ra, hcd, nL, hown, hsh⟩
  obtain ⟨hgo, hstop⟩ := hJ Z1 OW1 H' (Same.fr sm) (Stp.same sm)
  by_cases hlt : i < ds.length
  · right
    have ed : ds[i]? = some ds[i] := List.getElem?_eq_getElem hlt
    obtain ⟨go, y⟩ := hgo i _ ed
    rw [List.drop_eq_getElem_cons hlt, compD] at hcd
    refine ⟨go, fun H'' => i + 1 ≤ ds.length ∧ ∃ acc da ga, Same H1 H'' ∧ H'' L = some (.lst acc) ∧ RpL p.cm H'' acc da ga ∧ compD g.f c.f e.f (wipeE env own) (ds.drop (i + 1)) da = some out ∧
      (∀ a ∈ ga, a ≠ L) ∧ (ke = .own → ga.Nodup ∧ ∀ a ∈ ga, H1 a = none ∧ WrA H'' a) ∧ (ke = .sh → ∀ a ∈ ga, Z1.s a ∨ H1 a = none), fun H'' hN => ⟨ds.length - (i + 1), by omega, rfl, hN⟩, fun x H2 hy => ?_⟩
    obtain ⟨e2, gg, rx, Kown, Kx⟩ := y x H2 hy
    have sm2 := sm.trans e2
    have E2 : ER p.cm (lendM ms') (Z1.lend OW1) H2 σ env [] := ((E1.same sm).same e2).lend
    have E3 : ER p.cm (killM own (lendM ms')) (Z1.lend OW1) H2 (L2.wipe σ own) (wipeE env own) [] := ⟨E2.sl.wipe own, E2.nd, E2.wr, E2.dis, E2.tr, E2.sub⟩
    have Kx' : KdN kd (Z1.lend OW1) [] H2 gg := by
      cases kd with
      | own => rw [Kown rfl]; exact KdN.nil _
      | sh => exact Kx
      | bor => exact fun a ha => .inl (Kx a ha)
      | any => trivial
    cases qb : g.f ds[i] (wipeE env own) with
    | none => rw [qb] at hcd; cases hcd
    | some ev =>
    rw [qb] at hcd
    have hcd : compB (c.f ev) (compX (e.f ev) da fun acc => compD g.f c.f e.f (wipeE env own) (ds.drop (i + 1)) acc) (compD g.f c.f e.f (wipeE env own) (ds.drop (i + 1)) da) = some out := hcd
    refine g.ok p kd _ m2 hg (Z1.lend OW1) H2 _ _ [] x ds[i] gg ev _ E3 qb rx Kx' fun σ2 OW2 E4 so wp => ?_
    refine ⟨by rw [wp own fun j hj => by simpa using List.all_eq_true.mp hsl j hj, wipe_idem], ?_⟩
    have o2 : OW2 = [] := by
      cases OW2 with
      | nil => rfl
      | cons z _ =>
        rcases so z List.mem_cons_self with w | ⟨w1, w2⟩
        · cases w
        · rw [Kown w1] at w2; cases w2
    subst o2
    have hL2 : H2 L = some (.lst acc) := e2 _ _ hLl
    have tL : H2 L ≠ none := by rw [hL2]; intro z; cases z
    refine c.ok (p0 p) m2 m2 hc (Z1.lend OW1) H2 σ2 ev [] _ E4 ?_
    cases qt : c.f ev with
    | none => rw [qt] at hcd; cases hcd
    | some rt =>
    rw [qt] at hcd
    cases rt with
    | ex cl pl => cases hcd
    | ok bd =>
    cases bd with
    | bl b =>
      intro v3 H3 f3 Z3 OW3 e3 s3 E5 rv3 _
      obtain ⟨rfl, _⟩ := rv3.bl_of
      refine ⟨b, rfl, ?_⟩
      have sm3 := sm2.trans e3
      have ra3 := (ra.same e2).same e3
      cases b with
      | false =>
        rw [if_neg Bool.false_ne_true]
        exact ⟨hlt, acc, da, ga, sm3, e3 _ _ hL2, ra3, hcd, nL, (fun z => ⟨(hown z).1, fun a ha => ⟨((hown z).2 a ha).1, (((hown z).2 a ha).2.same e2).same e3⟩⟩), hsh⟩
      | true =>
        rw [if_pos rfl]
        have hcd : compX (e.f ev) da (fun acc => compD g.f c.f e.f (wipeE env own) (ds.drop (i + 1)) acc) = some out := hcd
        refine e.ok (p0 p) m2 ke me hme Z3 H3 σ2 ev OW3 _ E5 ?_
        cases qe : e.f ev with
        | none => rw [qe] at hcd; cases hcd
        | some re =>
        rw [qe] at hcd
        cases re with
        | ex cl pl => cases hcd
        | ok xd =>
          have hcd : (if da.length < sizeLine then compD g.f c.f e.f (wipeE env own) (ds.drop (i + 1)) (da ++ [xd]) else none) = some out := hcd
          split at hcd
          case isFalse => cases hcd
          next hz =>
          intro v4 H4 f4 Z4 OW4 e4 s4 E6 rv4 K4
          have sm4 := sm3.trans e4
          have hL4 : H4 L = some (.lst acc) := e4 _ _ (e3 _ _ hL2)
          have ra4 := ra3.same e4
          have K4' := K4.from s3
          have s34 := s3.trans s4
          have nnL : ∀ a, Z4.n a → a ≠ L := fun a h z => by
            subst z
            rcases s34.n2 a h with (w | w) | w | w
            · exact nN a hL w
            · exact nO a hL w
            · cases w
            · exact tL w
          have nf4 : ∀ a ∈ f4, a ≠ L := fun a ha => by
            cases ke with
            | own =>
              rcases (K4'.2 a ha).2.2.1 with w | w
              · cases w
              · exact fun z => tL (z ▸ w)
            | sh => exact nnL a (E6.sub a (K4' a ha))
            | bor => exact nnL a (K4' a ha)
            | any => exact absurd rfl nany
          have new4 : ke = .own → ∀ a ∈ f4, H2 a = none := fun z a ha => by
            subst z
            rcases (K4'.2 a ha).2.2.1 with w | w
            · cases w
            · exact w
          have nL' : ∀ a ∈ ga ++ f4, a ≠ L := fun a ha => by
            rcases List.mem_append.mp ha with ha | ha
            · exact nL a ha
            · exact nf4 a ha
          have wrU : ∀ a, a ≠ L → WrA H4 a → WrA (upd H4 L (.lst (acc ++ [v4]))) a := fun a h w => by
            obtain ⟨u, q, w⟩ := w
            exact ⟨u, by rw [upd_ne h]; exact q, w⟩
          refine ⟨acc, hL4, by rw [ra4.length]; exact hz, hlt, acc ++ [v4], da ++ [xd], ga ++ f4, ?_, upd_same, ?_, hcd, nL', fun z => ?_, fun z => ?_⟩
          · intro b o hb
            rw [upd_ne (fun z => by subst z; rw [hL] at hb; cases hb)]
            exact sm4 b o hb
          · refine (ra4.append rv4).keep (fun a u ha r _ => ?_) (fun a us r => ?_) fun a o us r => by rw [upd_ne (fun z => by subst z; rw [hL4] at r; cases r)]; exact r
            · rcases r with r | ⟨o, r⟩
              · exact .inl (by rw [upd_ne (nL' a ha)]; exact r)
              · exact .inr ⟨o, by rw [upd_ne (nL' a ha)]; exact r⟩
            · have ne : a ≠ L := fun z => by
                subst z
                rcases r with r | ⟨o, r⟩ <;> rw [hL4] at r <;> cases r
              rcases r with r | ⟨o, r⟩
              · exact .inl (by rw [upd_ne ne]; exact r)
              · exact .inr ⟨o, by rw [upd_ne ne]; exact r⟩
          · obtain ⟨nd, hh⟩ := hown z
            have n4 := new4 z
            have K4o : f4.Nodup ∧ ∀ a ∈ f4, WrA H4 a := by
              subst z
              exact ⟨K4'.1, fun a ha => (K4'.2 a ha).2.2.2⟩
            refine ⟨List.nodup_append.mpr ⟨nd, K4o.1, fun a ha b hb zz => ?_⟩, fun a ha => ?_⟩
            · subst zz
              exact (ra.same e2).trk a ha (n4 a hb)
            · rcases List.mem_append.mp ha with ha | ha
              · exact ⟨(hh a ha).1, wrU a (nL a ha) ((((hh a ha).2.same e2).same e3).same e4)⟩
              · exact ⟨hn_of (Same.gro sm2) (n4 a ha), wrU a (nf4 a ha) (K4o.2 a ha)⟩
          · intro a ha
            rcases List.mem_append.mp ha with ha | ha
            · exact hsh z a ha
            · subst z
              rcases s34.s2 a (K4' a ha) with w | w | w
              · exact .inl w
              · cases w
              · exact .inr (hn_of (Same.gro sm2) w)
    | _ => cases hcd
  · left
    have ei : i = ds.length := by omega
    subst ei
    rw [List.drop_length, compD] at hcd
    cases hcd
    refine ⟨hstop _ (Nat.le_refl _), ?_⟩
    have rL : RpL p.cm H' [.ref L] [.lst out] (L :: ga) := RpL.lst1 (.inl hLl) ra
    have eH : Same H H' := e1.trans sm
    have fin : ∀ Z2, Stp Z OW H Z2 OW H' → ER p.cm msx Z2 H' σ env OW → KdOk k OW H Z2 OW H' (L :: ga) → Q (.ref L) H' := fun Z2 a b c => hP (.ref L) H' _ Z2 OW eH a b rL c
    have s5 : Stp Z OW H Z OW H' := Stp.same eH
    have E5 := E.same eH
    have o0 : ∀ a, H a = none → a ∉ OW := fun a h z => E.sl.trk a z h
    have n0 : ∀ a, H a = none → ¬ Z.n a := fun a h z => E.tr a z h
    cases ke with
    | own =>
      cases hko
      obtain ⟨nd, hh⟩ := hown rfl
      refine fin Z s5 E5 ⟨List.nodup_cons.mpr ⟨fun z => nL L z rfl, nd⟩, fun a ha => ?_⟩
      have h2 : H1 a = none ∧ WrA H' a := by
        rcases List.mem_cons.mp ha with rfl | ha
        · exact ⟨hL, _, hLl, trivial⟩
        · exact hh a ha
      have h3 := hn_of s1.gro h2.1
      exact ⟨o0 a h3, n0 a h3, .inr h3, h2.2⟩
    | sh =>
      cases hko
      have fact : ∀ a ∈ (L :: ga).filter (fun a => (H a).isNone), a ∈ L :: ga ∧ H a = none := fun a ha => by
        obtain ⟨x, y⟩ := List.mem_filter.mp ha
        exact ⟨x, by simpa using y⟩
      refine fin (Z.add ((L :: ga).filter fun a => (H a).isNone)) (s5.share fun a ha => .inr (fact a ha).2) (E5.share fun a ha => ⟨o0 a (fact a ha).2, rL.trk a (fact a ha).1⟩) fun a ha => ?_
      have : Z.s a ∨ H a = none := by
        rcases List.mem_cons.mp ha with rfl | ha
        · exact .inr (hn_of s1.gro hL)
        · rcases hsh rfl a ha with w | w
          · rcases s1.s2 a w with w | w | w
            · exact .inl w
            · cases w
            · exact .inr w
          · exact .inr (hn_of s1.gro w)
      rcases this with w | w
      · exact .inl w
      · exact .inr (List.mem_filter.mpr ⟨ha, by rw [w]; rfl⟩)
    | bor => cases hko; exact fin Z s5 E5 trivial
    | any => cases hko
def XE.lc (own : List Nat) (it : XI) (g : XG) (c : XT) (e : XE) : XE where
  t p := tLc (it.t p) (g.t p) (c.t (p0 p)) (e.t (p0 p)) own
  f env := match it.f env with
    | none => none
    | some (.ex cl pl) => some (.ex cl pl)
    | some (.ok ds) => (compD g.f c.f e.f (wipeE env own) ds []).map fun ds => .ok (.lst ds)
  mo ms := match it.mo (lendM ms) with
    | none => none
    | some (kd, m1) => (moLc own g c e kd m1).map fun k => (k, ms)
  ok p ms k msx hm Z H σ env OW Q E hP := by
    split at hm
    · cases hm
    next kd ms' h1 =>
    obtain ⟨k0, hk, he⟩ := Option.map_eq_some_iff.mp hm
    have hk0 : k = k0 := by cases he; rfl
    have hms : msx = ms := by cases he; rfl
    subst hk0 hms
    clear he hm
    have EL := E.lend
    refine it.ok p (lendM msx) kd ms' h1 (Z.lend OW) H σ env [] _ EL ?_
    cases q : it.f env with
    | none => rw [q] at hP; exact hP
    | some r =>
      rw [q] at hP
      cases r with
      | ex cl pl => exact hP
      | ok ds =>
        have hP : PoE p k msx Z H σ env OW ((compD g.f c.f e.f (wipeE env own) ds []).map fun ds => .ok (.lst ds)) Q := hP
        intro J H1 Z1 OW1 e1 s1 E1 hJ
        exact lc_run hk E hP e1 s1 E1 hJ
end DL
set_option maxRecDepth 100000
namespace DL
open PySem PySem.Spec PyProof.Rows L2
section
variable {cm : CM} {H : Hp}
theorem RpL.cut {vs ds f} (h : RpL cm H vs ds f) (a b : Nat) : ∃ g, RpL cm H ((vs.drop a).take b) ((ds.drop a).take b) g ∧ (∀ x ∈ g, x ∈ f) ∧ (f.Nodup → g.Nodup) := by
  have dr : ∀ a, ∀ {vs ds f}, RpL cm H vs ds f → ∃ g, RpL cm H (vs.drop a) (ds.drop a) g ∧ (∀ x ∈ g, x ∈ f) ∧ (f.Nodup → g.Nodup) := by
    intro a
    induction a with
    | zero => intro vs ds f h; exact ⟨f, h, fun _ q => q, fun q => q⟩
    | succ a ih =>
      intro vs ds f h
      cases ds with
      | nil => obtain ⟨rfl, rfl⟩ := h.nil_of; exact ⟨[], .nil, fun _ q => q, fun q => q⟩
      | cons d ds =>
        obtain ⟨v, vs', f1, f2, rfl, rfl, _, h2⟩ := h.cons_of
        obtain ⟨g, r, s, n⟩ := ih h2
        exact ⟨g, r, fun x hx => List.mem_append_right _ (s x hx), fun q => n (List.nodup_append.mp q).2.1⟩
  have tk : ∀ b, ∀ {vs ds f}, RpL cm H vs ds f → ∃ g, RpL cm H (vs.take b) (ds.take b) g ∧ (∀ x ∈ g, x ∈ f) ∧ (f.Nodup → g.Nodup) := by
    intro b
    induction b with
    | zero => intro vs ds f h; exact ⟨[], .nil, (fun _ q => by cases q), fun _ => List.nodup_nil⟩
    | succ b ih =>
      intro vs ds f h
      cases ds with
      | nil => obtain ⟨rfl, rfl⟩ := h.nil_of; exact ⟨[], .nil, fun _ q => q, fun q => q⟩
      | cons d ds =>
        obtain ⟨v, vs', f1, f2, rfl, rfl, h1, h2⟩ := h.cons_of
        obtain ⟨g, r, s, n⟩ := ih h2
        refine ⟨f1 ++ g, h1.cons1 r, fun x hx => ?_, fun q => ?_⟩
        · rcases List.mem_append.mp hx with hx | hx
          · exact List.mem_append_left _ hx
          · exact List.mem_append_right _ (s x hx)
        · obtain ⟨n1, n2, n3⟩ := List.nodup_append.mp q
          exact List.nodup_append.mpr ⟨n1, n n2, fun x hx y hy => n3 x hx y (s y hy)⟩
  obtain ⟨g1, r1, s1, n1⟩ := dr a h
  obtain ⟨g2, r2, s2, n2⟩ := tk b r1
  exact ⟨g2, r2, fun x hx => s1 x (s2 x hx), fun q => n2 (n1 q)⟩
end
def cutD (ds : List D) (lo hi : Option Int) : List D := (ds.drop (HT.sIx ds.length 0 lo)).take (HT.sIx ds.length ds.length hi - HT.sIx ds.length 0 lo)
theorem RpL.cutV {cm H vs ds f} (h : RpL cm H vs ds f) (lo hi : Option Int) : ∃ g, RpL cm H (L2.cutV vs lo hi) (cutD ds lo hi) g ∧ (∀ x ∈ g, x ∈ f) ∧ (f.Nodup → g.Nodup) := by
  unfold L2.cutV cutD
  rw [h.length]
  exact h.cut _ _
/-! ### parts of a slice -/
def PoO (p : Pm) (ms' : List M) (Z : Zn) (H : Hp) (σ : L2.St) (env : EnvD) (OW : List Addr) (r : Option (R (Option Int))) (Q : Option Int → Hp → Prop) : Prop :=
  match r with
  | none => False
  | some (.ok d) => ∀ H' Z' OW', Same H H' → Stp Z OW H Z' OW' H' → ER p.cm ms' Z' H' σ env OW' → Q d H'
  | some (.ex c pl) => ∀ dd H', Same H H' → ExD p.cm H' dd pl → p.W (.ref (p.cm.c c)) dd σ H'
structure XO where
  t : Pm → TO
  f : EnvD → Option (R (Option Int))
  mo : List M → Option (List M)
  ok : ∀ p ms ms', mo ms = some ms' → ∀ Z H σ env OW Q, ER p.cm ms Z H σ env OW → PoO p ms' Z H σ env OW (f env) Q → t p σ H Q
def XO.no : XO where
  t _ := tNoPart
  f _ := some (.ok none)
  mo ms := some ms
  ok p ms ms' hm Z H σ env OW Q E hP := by
    cases hm
    exact hP H Z OW (Same.refl H) Stp.refl E
def partF (r : Option (R D)) : Option (R (Option Int)) := match r with
  | none => none
  | some (.ex c p) => some (.ex c p)
  | some (.ok (.int i)) => some (.ok (some i))
  | _ => none
def XO.e (a : XE) : XO where
  t p := tPart (a.t p)
  f env := partF (a.f env)
  mo ms := (a.mo ms).map (·.2)
  ok p ms ms' hm Z H σ env OW Q E hP := by
    obtain ⟨⟨k, m1⟩, ha, he⟩ := Option.map_eq_some_iff.mp hm
    cases he
    refine a.ok p ms k m1 ha Z H σ env OW _ E ?_
    cases q : a.f env with
    | none => rw [q] at hP; exact hP
    | some r =>
      rw [q] at hP
      cases r with
      | ex c pl => exact hP
      | ok d =>
        intro v H1 f1 Z1 OW1 e s E1 r1 k1
        cases d with
        | int i =>
          obtain ⟨rfl, rfl⟩ := r1.int_of
          exact ⟨i, rfl, hP H1 Z1 OW1 e s E1⟩
        | _ => exact hP.elim
def b3 (ra : Option (R D)) (rl rh : Option (R (Option Int))) (g : D → Option Int → Option Int → Option (R D)) : Option (R D) := b1 ra fun d => match rl with
  | none => none
  | some (.ex c p) => some (.ex c p)
  | some (.ok l) => match rh with
    | none => none
    | some (.ex c p) => some (.ex c p)
    | some (.ok h) => g d l h
def mo3 (a : XE) (l h : XO) (ms : List M) : Option (Kd × List M) := match a.mo ms with
  | none => none
  | some (k, m1) => match l.mo m1 with
    | none => none
    | some m2 => (h.mo m2).map fun m3 => (k, m3)
theorem XE.three (a : XE) (l h : XO) {p : Pm} {ms m3 m4 : List M} {Z : Zn} {H : Hp} {σ : L2.St} {env : EnvD} {OW : List Addr} {k k1 : Kd} {Q : VK} {g : D → Option Int → Option Int → Option (R D)} {T : V → Option Int → Option Int → Hp → Prop} (hm : mo3 a l h ms = some (k1, m3)) (E : ER p.cm ms Z H σ env OW)
    (hP : PoE p k m4 Z H σ env OW (b3 (a.f env) (l.f env) (h.f env) g) Q)
    (hok : ∀ d lo hi v H1 f1 Z1 OW1, Same H H1 → Stp Z OW H Z1 OW1 H1 → ER p.cm m3 Z1 H1 σ env OW1 → RpL p.cm H1 [v] [d] f1 → KdOk k1 OW H Z1 OW1 H1 f1 → PoE p k m4 Z H σ env OW (g d lo hi) Q → T v lo hi H1) :
    a.t p σ H (fun x H1 => l.t p σ H1 fun lo H2 => h.t p σ H2 fun hi H3 => T x lo hi H3) := by
  unfold mo3 at hm
  split at hm
  · cases hm
  next k0 m1 h1 =>
  split at hm
  · cases hm
  next m2 h2 =>
  obtain ⟨m3', h3, he⟩ := Option.map_eq_some_iff.mp hm
  cases he
  refine XE.one a h1 E hP fun d v H1 f1 Z1 OW1 _ e1 s1 E1 r1 K1 hP1 => ?_
  refine l.ok p m1 m2 h2 Z1 H1 σ env OW1 _ E1 ?_
  cases q : l.f env with
  | none => rw [q] at hP1; exact hP1
  | some rl =>
    rw [q] at hP1
    cases rl with
    | ex c pl => exact fun dd H' e' x => hP1 dd H' (e1.trans e') x
    | ok lo =>
      intro H2 Z2 OW2 e2 s2 E2
      refine h.ok p m2 m3 h3 Z2 H2 σ env OW2 _ E2 ?_
      cases q3 : h.f env with
      | none => rw [q3] at hP1; exact hP1
      | some rh =>
        rw [q3] at hP1
        cases rh with
        | ex c pl => exact fun dd H' e' x => hP1 dd H' ((e1.trans e2).trans e') x
        | ok hi =>
          intro H3 Z3 OW3 e3 s3 E3
          exact hok d lo hi v H3 f1 Z3 OW3 ((e1.trans e2).trans e3) ((s1.trans s2).trans s3) E3 ((r1.same e2).same e3) (K1.later r1.trk (s2.trans s3) (e2.trans e3)) hP1
def newK (im : Bool) (k : Kd) : Kd := if im then .own else k
/-- the new list that an operation makes -/
theorem new_list {p : Pm} {ms : List M} {Z Z1 : Zn} {H H1 : Hp} {σ : L2.St} {env : EnvD} {OW OW1 : List Addr} {im : Bool} {k : Kd} {Q : VK} {vs : List V} {ds : List D} {f : List Addr} (hP : PoE p (newK im k) ms Z H σ env OW (if !im || immL ds then some (.ok (.lst ds)) else none) Q)
    (e1 : Same H H1) (s1 : Stp Z OW H Z1 OW1 H1) (E1 : ER p.cm ms Z1 H1 σ env OW1) (r1 : RpL p.cm H1 vs ds f) (K1 : KdOk k OW H Z1 OW1 H1 f) (a : Addr) (ha : H1 a = none) : Q (.ref a) (upd H1 a (.lst vs)) := by
  by_cases c : (!im || immL ds) = true
  · rw [if_pos c] at hP
    have e2 := same_upd (o := .lst vs) ha
    have K1' : KdOk (newK im k) OW H Z1 OW1 H1 f := by
      cases im with
      | false => exact K1
      | true =>
        have : f = [] := r1.imm (by simpa using c)
        subst this
        exact KdOk.nil _
    obtain ⟨Z2, s2, E2, K2⟩ := K1'.new s1 E1 r1.trk ha (o := .lst vs) trivial
    exact hP _ _ (a :: f) Z2 OW1 (e1.trans e2) s2 E2 (RpL.lst1 (.inl upd_same) (r1.same e2)) K2
  · rw [if_neg c] at hP
    exact hP.elim
def slLF (im : Bool) (d : D) (lo hi : Option Int) : Option (R D) := match d with
  | .lst ds => if !im || immL (cutD ds lo hi) then some (.ok (.lst (cutD ds lo hi))) else none
  | .scr ds => if !im || immL (cutD ds lo hi) then some (.ok (.lst (cutD ds lo hi))) else none
  | _ => none
/-- xs[lo:hi] -/
def XE.slL (im : Bool) (a : XE) (l h : XO) : XE where
  t p := tSl (rSlL p.cm.K) (a.t p) (l.t p) (h.t p)
  f env := b3 (a.f env) (l.f env) (h.f env) (slLF im)
  mo ms := (mo3 a l h ms).map fun x => (newK im x.1, x.2)
  ok p ms k ms' hm Z H σ env OW Q E hP := by
    obtain ⟨⟨k1, m3⟩, h1, he⟩ := Option.map_eq_some_iff.mp hm
    cases he
    refine XE.three a l h h1 E hP fun d lo hi v H1 f1 Z1 OW1 e1 s1 E1 r1 K1 hP1 => ?_
    cases d with
    | lst ds =>
      obtain ⟨b, us, g, rfl, rd, rr, rfl⟩ := r1.lst_of
      obtain ⟨g', rc, sb, nd⟩ := rr.cutV lo hi
      exact ⟨b, us, rfl, .inl rd, fun q hq => new_list hP1 e1 s1 E1 rc (K1.part (fun x hx => List.mem_cons_of_mem _ (sb x hx)) fun n => nd (List.nodup_cons.mp n).2) q hq⟩
    | scr ds =>
      obtain ⟨b, us, rfl, rd, rr, rfl⟩ := r1.scr_of
      obtain ⟨g', rc, sb, nd⟩ := rr.cutV lo hi
      exact ⟨b, us, rfl, rd.sq, fun q hq => new_list hP1 e1 s1 E1 rc (K1.part sb nd) q hq⟩
    | _ => exact hP1.elim
def slTF (d : D) (lo hi : Option Int) : Option (R D) := match d with
  | .tup ds => some (.ok (.tup (cutD ds lo hi)))
  | _ => none
theorem cut_whole {ds : List D} {lo hi : Option Int} (h : HT.sIx ds.length 0 lo = 0 ∧ HT.sIx ds.length ds.length hi = ds.length) : cutD ds lo hi = ds := by
  unfold cutD
  rw [h.1, h.2]
  simp
/-- t[lo:hi] of a tuple -/
def XE.slT (a : XE) (l h : XO) : XE where
  t p := tSl (rSlA p.cm.K) (a.t p) (l.t p) (h.t p)
  f env := b3 (a.f env) (l.f env) (h.f env) slTF
  mo ms := mo3 a l h ms
  ok p ms k ms' hm Z H σ env OW Q E hP := by
    refine XE.three a l h hm E hP fun d lo hi v H1 f1 Z1 OW1 e1 s1 E1 r1 K1 hP1 => ?_
    cases d with
    | tup ds =>
      have r0 := r1
      obtain ⟨b, us, rfl, rd, rr⟩ := r1.tup_of
      obtain ⟨g', rc, sb, nd⟩ := rr.cutV lo hi
      refine ⟨b, us, rfl, .inl rd, fun w => ?_, fun _ q hq => ?_⟩
      · rw [rr.length] at w
        have hP1 : PoE p k ms' Z H σ env OW (some (.ok (.tup (cutD ds lo hi)))) Q := hP1
        rw [cut_whole w] at hP1
        exact hP1 _ H1 f1 Z1 OW1 e1 s1 E1 r0 K1
      · have e2 := same_upd (o := .tup (L2.cutV us lo hi)) hq
        have K2 := (K1.part sb nd).later rc.trk (Stp.same (Z := Z1) (OW := OW1) e2) e2
        exact hP1 _ _ g' Z1 OW1 (e1.trans e2) (s1.trans (Stp.same e2)) (E1.same e2) (RpL.tup1 (.inl upd_same) (rc.same e2)) K2
    | _ => exact hP1.elim
def slSF (d : D) (lo hi : Option Int) : Option (R D) := match d with
  | .str z => if z.length ≤ sizeLine then some (.ok (.str (cutS z lo hi))) else none
  | _ => none
/-- s[lo:hi] of a text -/
def XE.slS (a : XE) (l h : XO) : XE where
  t p := tSl rSlS (a.t p) (l.t p) (h.t p)
  f env := b3 (a.f env) (l.f env) (h.f env) slSF
  mo ms := (mo3 a l h ms).map fun x => (.own, x.2)
  ok p ms k ms' hm Z H σ env OW Q E hP := by
    obtain ⟨⟨k1, m3⟩, h1, he⟩ := Option.map_eq_some_iff.mp hm
    cases he
    refine XE.three a l h h1 E hP fun d lo hi v H1 f1 Z1 OW1 e1 s1 E1 r1 K1 hP1 => ?_
    cases d with
    | str z =>
      obtain ⟨rfl, rfl⟩ := r1.str_of
      have hP1 : PoE p .own m3 Z H σ env OW (if z.length ≤ sizeLine then some (.ok (.str (cutS z lo hi))) else none) Q := hP1
      by_cases c : z.length ≤ sizeLine
      · rw [if_pos c] at hP1
        exact ⟨z, rfl, c, hP1 _ H1 [] Z1 OW1 e1 s1 E1 (RpL.at rfl) (KdOk.nil _)⟩
      · rw [if_neg c] at hP1; exact hP1.elim
    | _ => exact hP1.elim
/-! ### + of lists, tuples, texts; list * n -/
def catLF (im : Bool) (x y : D) : Option (R D) := match x, y with
  | .lst xs, .lst ys => if xs.length + ys.length ≤ sizeLine then (if !im || immL (xs ++ ys) then some (.ok (.lst (xs ++ ys))) else none) else none
  | _, _ => none
theorem rd_wr {H : Hp} {a : Addr} {u : HO} (r : Rd H a u) (w : WrA H a) : H a = some u := by
  rcases r with r | ⟨o, r⟩
  · exact r
  · obtain ⟨x, e, wx⟩ := w
    rw [r] at e; cases e; exact wx.elim
def rCatR : R2 := fun x y H Q => ∃ l b xs zs, x = .ref l ∧ y = .ref b ∧ Rd H l (.lst xs) ∧ Rd H b (.lst zs) ∧ xs.length + zs.length ≤ sizeLine ∧ ∀ p, H p = none → Q (.ref p) (upd H p (.lst (xs ++ zs)))
theorem op_catR {X : Cx} : OpR X (binaryOp .Add) rCatR := by
  intro pins s σ H x y v u Q I rx ry h
  obtain ⟨l, b, xs, zs, rfl, rfl, hH, hB, hz, q⟩ := h
  cases rx
  cases ry
  obtain ⟨z, its, n, r, e⟩ := hH.ok I.hok
  obtain ⟨z2, its2, n2, r2, e2⟩ := hB.ok I.hok
  refine PySem.P.add_list e e2 ?_ (by
    have := r.length
    have := r2.length
    rw [List.size_toArray, List.size_toArray]; omega)
  have ea : its.toArray ++ its2.toArray = (its ++ its2).toArray := by simp
  rw [ea]
  exact ⟨.ref _, _, I.lnew (t' := s.toks) (r.append r2) (by rw [List.length_append]; omega), rfl, q _ I.fresh⟩
def XE.catL (im : Bool) (a b : XE) : XE where
  t p := tOp rCatR (a.t p) (b.t p)
  f env := b2 (a.f env) (b.f env) (catLF im)
  mo ms := match moTwo a b ms with
    | some (k1, k2, m2) => some (newK im (joinK k1 k2), m2)
    | none => none
  ok p ms k ms' hm Z H σ env OW Q E hP := by
    split at hm
    · next k1 k2 m2 e =>
      cases hm
      obtain ⟨m1, h1, h2⟩ := moTwo_of e
      refine XE.two a b h1 h2 E hP fun d1 d2 v1 v2 H2 f1 f2 Z2 OW2 _ _ e2 s2 E2 r1 r2 K1 K2 dj hP2 => ?_
      unfold catLF at hP2
      split at hP2
      · next xs ys _ _ =>
        split at hP2
        · next hz =>
          obtain ⟨l1, us1, g1, rfl, rd1, rr1, rfl⟩ := r1.lst_of
          obtain ⟨l2, us2, g2, rfl, rd2, rr2, rfl⟩ := r2.lst_of
          have K1' := K1.part (f1 := g1) (fun x hx => List.mem_cons_of_mem _ hx) fun n => (List.nodup_cons.mp n).2
          have K2' := K2.part (f1 := g2) (fun x hx => List.mem_cons_of_mem _ hx) fun n => (List.nodup_cons.mp n).2
          obtain ⟨Z3, s3, E3, K3⟩ := KdOk.join K1' K2' s2 E2 rr1.trk rr2.trk fun z1 z2 a ha hb => dj z1 z2 a (List.mem_cons_of_mem _ ha) (List.mem_cons_of_mem _ hb)
          exact ⟨l1, l2, us1, us2, rfl, rfl, rd1, rd2, by rw [rr1.length, rr2.length]; exact hz, fun q hq => new_list hP2 e2 s3 E3 (rr1.append rr2) K3 q hq⟩
        · exact hP2.elim
      · exact hP2.elim
    · cases hm
def catTF (x y : D) : Option (R D) := match x, y with
  | .tup xs, .tup ys => if xs.length + ys.length ≤ sizeLine then some (.ok (.tup (xs ++ ys))) else none
  | _, _ => none
def XE.catT (a b : XE) : XE where
  t p := tOp (rCatA p.cm.K) (a.t p) (b.t p)
  f env := b2 (a.f env) (b.f env) catTF
  mo ms := match moTwo a b ms with
    | some (k1, k2, m2) => some (joinK k1 k2, m2)
    | none => none
  ok p ms k ms' hm Z H σ env OW Q E hP := by
    split at hm
    · next k1 k2 m2 e =>
      cases hm
      obtain ⟨m1, h1, h2⟩ := moTwo_of e
      refine XE.two a b h1 h2 E hP fun d1 d2 v1 v2 H2 f1 f2 Z2 OW2 _ _ e2 s2 E2 r1 r2 K1 K2 dj hP2 => ?_
      unfold catTF at hP2
      split at hP2
      · next xs ys _ _ =>
        split at hP2
        · next hz =>
          obtain ⟨Z3, s3, E3, K3⟩ := KdOk.join K1 K2 s2 E2 r1.trk r2.trk dj
          have R1 := r1
          have R2 := r2
          obtain ⟨l1, us1, rfl, rd1, rr1⟩ := r1.tup_of
          obtain ⟨l2, us2, rfl, rd2, rr2⟩ := r2.tup_of
          refine ⟨l1, l2, us1, us2, rfl, rfl, .inl rd1, .inl rd2, by rw [rr1.length, rr2.length]; exact hz, fun z => ?_, fun _ z => ?_, fun _ _ q hq => ?_⟩
          · subst z
            have : xs = [] := by
              have := rr1.length
              cases xs with
              | nil => rfl
              | cons _ _ => cases this
            subst this
            obtain ⟨_, rfl⟩ := rr1.nil_of
            exact hP2 _ H2 f2 Z3 OW2 e2 s3 E3 R2 K3
          · subst z
            have : ys = [] := by
              have := rr2.length
              cases ys with
              | nil => rfl
              | cons _ _ => cases this
            subst this
            obtain ⟨_, rfl⟩ := rr2.nil_of
            rw [List.append_nil] at K3
            have hP2 : PoE p (joinK k1 k2) ms' Z H σ env OW (some (.ok (.tup (xs ++ [])))) Q := hP2
            rw [List.append_nil] at hP2
            exact hP2 _ H2 f1 Z3 OW2 e2 s3 E3 R1 K3
          · have e3 := same_upd (o := .tup (us1 ++ us2)) hq
            have rj := rr1.append rr2
            exact hP2 _ _ (f1 ++ f2) Z3 OW2 (e2.trans e3) (s3.trans (Stp.same e3)) (E3.same e3) (RpL.tup1 (.inl upd_same) (rj.same e3)) (K3.later rj.trk (Stp.same e3) e3)
        · exact hP2.elim
      · exact hP2.elim
    · cases hm
def catSF (x y : D) : Option (R D) := match x, y with
  | .str a, .str b => if a.length + b.length ≤ sizeLine then some (.ok (.str (a ++ b))) else none
  | _, _ => none
def XE.catS (a b : XE) : XE where
  t p := tOp (fun x y H Q => ∃ i j, x = .str i ∧ y = .str j ∧ i.length + j.length ≤ sizeLine ∧ Q (.str (i ++ j)) H) (a.t p) (b.t p)
  f env := b2 (a.f env) (b.f env) catSF
  mo ms := match moTwo a b ms with
    | some (_, _, m2) => some (.own, m2)
    | none => none
  ok p ms k ms' hm Z H σ env OW Q E hP := by
    split at hm
    · next k1 k2 m2 e =>
      cases hm
      obtain ⟨m1, h1, h2⟩ := moTwo_of e
      refine XE.two a b h1 h2 E hP fun d1 d2 v1 v2 H2 f1 f2 Z2 OW2 _ _ e2 s2 E2 r1 r2 _ _ _ hP2 => ?_
      unfold catSF at hP2
      split at hP2
      · next x y _ _ =>
        split at hP2
        · next hz =>
          obtain ⟨rfl, rfl⟩ := r1.str_of
          obtain ⟨rfl, rfl⟩ := r2.str_of
          exact ⟨x, y, rfl, rfl, hz, hP2 _ H2 [] Z2 OW2 e2 s2 E2 (RpL.at rfl) (KdOk.nil _)⟩
        · exact hP2.elim
      · exact hP2.elim
    · cases hm
def repF (x y : D) : Option (R D) := match x, y with
  | .lst xs, .int k => if Nat.blt k.natAbs 9223372036854775808 = true ∧ xs.length * k.toNat ≤ sizeLine ∧ immL xs = true then some (.ok (.lst (List.replicate k.toNat xs).flatten)) else none
  | _, _ => none
theorem RpL.rep {cm H vs ds} (h : RpL cm H vs ds []) : ∀ n, RpL cm H (List.replicate n vs).flatten (List.replicate n ds).flatten []
  | 0 => .nil
  | n + 1 => by
    rw [List.replicate_succ, List.replicate_succ, List.flatten_cons, List.flatten_cons]
    exact h.append (RpL.rep h n)
theorem immL_app : ∀ {xs ys : List D}, immL xs = true → immL ys = true → immL (xs ++ ys) = true
  | [], _, _, h => h
  | x :: xs, ys, h1, h2 => by
    rw [immL, Bool.and_eq_true] at h1
    rw [List.cons_append, immL, h1.1, immL_app h1.2 h2]; rfl
theorem immL_rep {xs : List D} (h : immL xs = true) : ∀ n, immL (List.replicate n xs).flatten = true
  | 0 => rfl
  | n + 1 => by
    rw [List.replicate_succ, List.flatten_cons]
    exact immL_app h (immL_rep h n)
/-- [..] * n -/
def XE.rep (a b : XE) : XE where
  t p := tOp rRep (a.t p) (b.t p)
  f env := b2 (a.f env) (b.f env) repF
  mo ms := match moTwo a b ms with
    | some (.own, _, m2) => some (.own, m2)
    | _ => none
  ok p ms k ms' hm Z H σ env OW Q E hP := by
    split at hm
    · next k2 m2 e =>
      cases hm
      obtain ⟨m1, h1, h2⟩ := moTwo_of e
      refine XE.two a b h1 h2 E hP fun d1 d2 v1 v2 H2 f1 f2 Z2 OW2 _ _ e2 s2 E2 r1 r2 K1 _ _ hP2 => ?_
      unfold repF at hP2
      split at hP2
      · next xs k _ _ =>
        split at hP2
        · next hz =>
          obtain ⟨l1, us1, g1, rfl, rd1, rr1, rfl⟩ := r1.lst_of
          obtain ⟨rfl, rfl⟩ := r2.int_of
          have ex : H2 l1 = some (.lst us1) := rd_wr rd1 (K1.2 l1 List.mem_cons_self).2.2.2
          have hk := Nat.blt_eq.mp hz.1
          have hg : g1 = [] := rr1.imm hz.2.2
          subst hg
          have hP3 : PoE p (newK true .own) ms' Z H σ env OW (if !true || immL (List.replicate k.toNat xs).flatten then some (.ok (.lst (List.replicate k.toNat xs).flatten)) else none) Q := by
            rw [immL_rep hz.2.2]
            exact hP2
          exact ⟨l1, k, us1, rfl, rfl, ex, by omega, by omega, by rw [rr1.length]; exact hz.2.1, fun q hq => new_list hP3 e2 s2 E2 (rr1.rep _) (KdOk.nil .own) q hq⟩
        · exact hP2.elim
      · exact hP2.elim
    · cases hm
/-! ### list(x), tuple(x), dict(x) -/
def listOfF (im : Bool) : List D → Option (R D)
  | [.lst ds] => if !im || immL ds then some (.ok (.lst ds)) else none
  | [.scr ds] => if !im || immL ds then some (.ok (.lst ds)) else none
  | [.tup ds] => if !im || immL ds then some (.ok (.lst ds)) else none
  | _ => none
def rListOf (K : PySem.W.Frag) : List V → Hp → VK → Prop := fun xs H Q => ∃ p ys, xs = [.ref p] ∧ (SqL K H p ys ∨ SqT K H p ys) ∧ ∀ l, H l = none → Q (.ref l) (upd H l (.lst ys))
theorem RpL.one_of {cm H vs d f} (h : RpL cm H vs [d] f) : ∃ v, vs = [v] := by
  obtain ⟨v, vs', f1, f2, rfl, rfl, _, h2⟩ := h.cons_of
  obtain ⟨rfl, _⟩ := h2.nil_of
  exact ⟨v, rfl⟩
def XE.listOf (im : Bool) (as : XA) : XE where
  t p := tCB (rListOf p.cm.K) (as.t p)
  f env := bL (as.f env) (listOfF im)
  mo ms := match as.mo ms with
    | some (k, m1) => some (newK im k, m1)
    | none => none
  ok p ms k ms' hm Z H σ env OW Q E hP := by
    split at hm
    case h_2 => cases hm
    next k1 m1 e =>
    cases hm
    refine as.ok p ms k1 ms' e Z H σ env OW _ E ?_
    cases q : as.f env with
    | none => rw [q] at hP; exact hP
    | some r =>
      rw [q] at hP
      cases r with
      | ex c pl => exact hP
      | ok ds =>
        intro vs H1 f Z1 OW1 e1 s1 E1 r1 K1
        have hP : PoE p (newK im k1) ms' Z H σ env OW (listOfF im ds) Q := hP
        unfold listOfF at hP
        split at hP
        · obtain ⟨v, rfl⟩ := r1.one_of
          obtain ⟨b, us, g, rfl, rd, rr, rfl⟩ := r1.lst_of
          exact ⟨b, us, rfl, .inl (.inl rd), fun q hq => new_list hP e1 s1 E1 rr (K1.part (fun x hx => List.mem_cons_of_mem _ hx) fun n => (List.nodup_cons.mp n).2) q hq⟩
        · obtain ⟨v, rfl⟩ := r1.one_of
          obtain ⟨b, us, rfl, rd, rr, rfl⟩ := r1.scr_of
          exact ⟨b, us, rfl, .inl rd.sq, fun q hq => new_list hP e1 s1 E1 rr K1 q hq⟩
        · obtain ⟨v, rfl⟩ := r1.one_of
          obtain ⟨b, us, rfl, rd, rr⟩ := r1.tup_of
          exact ⟨b, us, rfl, .inr (.inl rd), fun q hq => new_list hP e1 s1 E1 rr K1 q hq⟩
        · exact hP.elim
def rTupOf (K : PySem.W.Frag) : List V → Hp → VK → Prop := fun xs H Q => ∃ p ys, xs = [.ref p] ∧ ((SqL K H p ys ∧ ∀ l, H l = none → Q (.ref l) (upd H l (.tup ys))) ∨ (SqT K H p ys ∧ Q (.ref p) H))
def tupOfF : List D → Option (R D)
  | [.lst ds] => some (.ok (.tup ds))
  | [.tup ds] => some (.ok (.tup ds))
  | _ => none
/-- tuple(x) -/
def XE.tupOf (as : XA) : XE where
  t p := tCB (rTupOf p.cm.K) (as.t p)
  f env := bL (as.f env) tupOfF
  mo ms := as.mo ms
  ok p ms k ms' hm Z H σ env OW Q E hP := by
    refine as.ok p ms k ms' hm Z H σ env OW _ E ?_
    cases q : as.f env with
    | none => rw [q] at hP; exact hP
    | some r =>
      rw [q] at hP
      cases r with
      | ex c pl => exact hP
      | ok ds =>
        intro vs H1 f Z1 OW1 e1 s1 E1 r1 K1
        have hP : PoE p k ms' Z H σ env OW (tupOfF ds) Q := hP
        unfold tupOfF at hP
        split at hP
        · next ds _ =>
          obtain ⟨v, rfl⟩ := r1.one_of
          obtain ⟨b, us, g, rfl, rd, rr, rfl⟩ := r1.lst_of
          refine ⟨b, us, rfl, .inl ⟨.inl rd, fun q hq => ?_⟩⟩
          have e2 := same_upd (o := .tup us) hq
          have K2 := (K1.part (f1 := g) (fun x hx => List.mem_cons_of_mem _ hx) fun n => (List.nodup_cons.mp n).2).later rr.trk (Stp.same (Z := Z1) (OW := OW1) e2) e2
          exact hP _ _ g Z1 OW1 (e1.trans e2) (s1.trans (Stp.same e2)) (E1.same e2) (RpL.tup1 (.inl upd_same) (rr.same e2)) K2
        · next ds _ =>
          obtain ⟨v, rfl⟩ := r1.one_of
          have R1 := r1
          obtain ⟨b, us, rfl, rd, rr⟩ := r1.tup_of
          exact ⟨b, us, rfl, .inr ⟨.inl rd, hP _ H1 f Z1 OW1 e1 s1 E1 R1 K1⟩⟩
        · exact hP.elim
/-! ### in -/
def flatD : D → Bool
  | .non => true
  | .bl _ => true
  | .int _ => true
  | .str _ => true
  | _ => false
/-- the value of flat data -/
def atV (d : D) : V := (atomV d).getD .non
theorem RpL.flat {cm H vs ds f} (h : RpL cm H vs ds f) (e : ds.all flatD = true) : vs = ds.map atV ∧ f = [] := by
  induction h with
  | nil => exact ⟨rfl, rfl⟩
  | atom q _ ih =>
    rw [List.all_cons, Bool.and_eq_true] at e
    obtain ⟨a, b⟩ := ih e.2
    exact ⟨by rw [List.map_cons, ← a, atV, q]; rfl, b⟩
  | _ => rw [List.all_cons, Bool.and_eq_true] at e; cases e.1
theorem flat_flatV {d : D} (h : flatD d = true) : flatV (atV d) = true := by
  cases d <;> first | rfl | cases h
theorem flat_all {ds : List D} (h : ds.all flatD = true) : (ds.map atV).all flatV = true := by
  rw [List.all_map, List.all_eq_true]
  intro d hd
  exact flat_flatV (List.all_eq_true.mp h d hd)
def inSF (neg : Bool) (x y : D) : Option (R D) := match y with
  | .lst ds => if flatD x && ds.all flatD then some (.ok (.bl (if neg then !inV (atV x) (ds.map atV) else inV (atV x) (ds.map atV)))) else none
  | .tup ds => if flatD x && ds.all flatD then some (.ok (.bl (if neg then !inV (atV x) (ds.map atV) else inV (atV x) (ds.map atV)))) else none
  | _ => none
/-- x in a list or tuple, all flat -/
def XE.inS (neg : Bool) (a b : XE) : XE where
  t p := tOp (rIn p.cm.K neg) (a.t p) (b.t p)
  f env := b2 (a.f env) (b.f env) (inSF neg)
  mo ms := match moTwo a b ms with
    | some (_, _, m2) => some (.own, m2)
    | none => none
  ok p ms k ms' hm Z H σ env OW Q E hP := by
    split at hm
    · next k1 k2 m2 e =>
      cases hm
      obtain ⟨m1, h1, h2⟩ := moTwo_of e
      refine XE.two a b h1 h2 E hP fun d1 d2 v1 v2 H2 f1 f2 Z2 OW2 _ _ e2 s2 E2 r1 r2 _ _ _ hP2 => ?_
      have main : ∀ (ds : List D) (b : Addr) (us : List V) (g : List Addr), v2 = .ref b → (SqL p.cm.K H2 b us ∨ SqT p.cm.K H2 b us) → RpL p.cm H2 us ds g → PoE p .own ms' Z H σ env OW (if flatD d1 && ds.all flatD then some (.ok (.bl (if neg then !inV (atV d1) (ds.map atV) else inV (atV d1) (ds.map atV)))) else none) Q → rIn p.cm.K neg v1 v2 H2 Q := by
        intro ds b us g ev sq rr hP3
        split at hP3
        · next hc =>
          rw [Bool.and_eq_true] at hc
          obtain ⟨ev1, _⟩ := r1.flat (by rw [List.all_cons, hc.1]; rfl)
          have ev1' : v1 = atV d1 := by
            rw [List.map_cons, List.map_nil] at ev1
            exact (List.cons.inj ev1).1
          obtain ⟨rfl, _⟩ := rr.flat hc.2
          subst ev1'
          exact ⟨b, _, ev, sq, flat_flatV hc.1, flat_all hc.2, hP3 _ H2 [] Z2 OW2 e2 s2 E2 (RpL.at rfl) (KdOk.nil _)⟩
        · exact hP3.elim
      cases d2 with
      | lst ds =>
        obtain ⟨b, us, g, rfl, rd, rr, rfl⟩ := r2.lst_of
        exact main ds b us g rfl (.inl (.inl rd)) rr hP2
      | tup ds =>
        obtain ⟨b, us, rfl, rd, rr⟩ := r2.tup_of
        exact main ds b us f2 rfl (.inr (.inl rd)) rr hP2
      | _ => exact hP2.elim
    · cases hm
def inDF (neg : Bool) (x y : D) : Option (R D) := match toPy x, toPy y with
  | some d, some (.list ds) => if SeqAt.shaped d && SeqAt.shaped (.list ds) then some (.ok (.bl (if neg then !ds.any fun z => PyData.eqv z d else ds.any fun z => PyData.eqv z d))) else none
  | _, _ => none
/-- x in a list of data -/
def XE.inD (neg : Bool) (a b : XE) : XE where
  t p := tOp (if neg then rNotInD p.cm.K else rInD p.cm.K) (a.t p) (b.t p)
  f env := b2 (a.f env) (b.f env) (inDF neg)
  mo ms := match moTwo a b ms with
    | some (_, _, m2) => some (.own, m2)
    | none => none
  ok p ms k ms' hm Z H σ env OW Q E hP := by
    split at hm
    · next k1 k2 m2 e =>
      cases hm
      obtain ⟨m1, h1, h2⟩ := moTwo_of e
      refine XE.two a b h1 h2 E hP fun d1 d2 v1 v2 H2 f1 f2 Z2 OW2 _ _ e2 s2 E2 r1 r2 _ _ _ hP2 => ?_
      unfold inDF at hP2
      split at hP2
      · next u w q1 q2 =>
        split at hP2
        · next hs =>
          rw [Bool.and_eq_true] at hs
          have hQ := hP2 _ H2 [] Z2 OW2 e2 s2 E2 (RpL.at rfl) (KdOk.nil _)
          cases neg with
          | true => exact ⟨u, w, r1.dp q1, r2.dp q2, hs.1, hs.2, hQ⟩
          | false => exact ⟨u, w, r1.dp q1, r2.dp q2, hs.1, hs.2, hQ⟩
        · exact hP2.elim
      · exact hP2.elim
    · cases hm
/-! ### a if c else b -/
def XE.ife (c : XT) (a b : XE) : XE where
  t p := tIf (c.t p) (a.t p) (b.t p)
  f env := bT (c.f env) fun x => if x then a.f env else b.f env
  mo ms := match c.mo ms with
    | none => none
    | some m1 => match a.mo m1, b.mo m1 with
      | some (k1, m2), some (k2, m3) => if m2 = m1 ∧ m3 = m1 ∧ k1 = k2 then some (k1, m1) else none
      | _, _ => none
  ok p ms k ms' hm Z H σ env OW Q E hP := by
    split at hm
    · cases hm
    next m1 h1 =>
    split at hm
    case h_2 => cases hm
    next k1 m2 k2 m3 ha hb =>
    split at hm
    case isFalse => cases hm
    next hq =>
    obtain ⟨rfl, rfl, rfl⟩ := hq
    cases hm
    refine XT.one c (g := fun x => if x then a.f env else b.f env) h1 E hP fun x H1 Z1 OW1 _ e1 s1 E1 hP1 => ?_
    cases x with
    | true =>
      rw [if_pos rfl]
      exact a.ok p _ _ _ ha Z1 H1 σ env OW1 Q E1 (PoE.after hP1 e1 s1)
    | false =>
      rw [if_neg Bool.false_ne_true]
      exact b.ok p _ _ _ hb Z1 H1 σ env OW1 Q E1 (PoE.after hP1 e1 s1)
end DL
set_option maxRecDepth 100000
namespace DL
open PySem PySem.Spec PyProof.Rows L2
/-! ### built-in functions -/
def rLen (K : PySem.W.Frag) : List V → Hp → VK → Prop := fun xs H Q => ∃ x n, xs = [x] ∧ LenV K x H n ∧ Q (.int n) H
def lenF : List D → Option D
  | [.lst ds] => some (.int ds.length)
  | [.scr ds] => some (.int ds.length)
  | [.tup ds] => some (.int ds.length)
  | [.str z] => if z.length ≤ sizeLine then some (.int z.length) else none
  | _ => none
def BI.len : BI where
  r p := rLen p.cm.K
  g := lenF
  ok p ds d h := by
    unfold lenF at h
    split at h
    · cases h
      refine ⟨_, rfl, fun H vs f Q r q => ?_⟩
      obtain ⟨v, rfl⟩ := r.one_of
      obtain ⟨a, us, g, rfl, rd, rr, _⟩ := r.lst_of
      exact ⟨_, us.length, rfl, .inl ⟨us, .inl rd, rfl⟩, by rw [rr.length]; exact q⟩
    · cases h
      refine ⟨_, rfl, fun H vs f Q r q => ?_⟩
      obtain ⟨v, rfl⟩ := r.one_of
      obtain ⟨a, us, rfl, rd, rr, _⟩ := r.scr_of
      exact ⟨_, us.length, rfl, .inl ⟨us, rd.sq, rfl⟩, by rw [rr.length]; exact q⟩
    · cases h
      refine ⟨_, rfl, fun H vs f Q r q => ?_⟩
      obtain ⟨v, rfl⟩ := r.one_of
      obtain ⟨a, us, rfl, rd, rr⟩ := r.tup_of
      exact ⟨_, us.length, rfl, .inr ⟨us, .inl rd, rfl⟩, by rw [rr.length]; exact q⟩
    · next z =>
      split at h
      · next hz =>
        cases h
        refine ⟨_, rfl, fun H vs f Q r q => ?_⟩
        obtain ⟨v, rfl⟩ := r.one_of
        obtain ⟨rfl, _⟩ := r.str_of
        exact ⟨_, z.length, rfl, ⟨hz, rfl⟩, q⟩
      · cases h
    · cases h
def rAbs : List V → Hp → VK → Prop := fun xs H Q => ∃ i, xs = [.int i] ∧ Q (.int (if i < 0 then -i else i)) H
def BI.abs : BI where
  r _ := rAbs
  g ds := match ds with
    | [.int i] => some (.int (if i < 0 then -i else i))
    | _ => none
  ok p ds d h := by
    split at h
    · cases h
      refine ⟨_, rfl, fun H vs f Q r q => ?_⟩
      obtain ⟨v, rfl⟩ := r.one_of
      obtain ⟨rfl, _⟩ := r.int_of
      exact ⟨_, rfl, q⟩
    · cases h
theorem RpL.two_of {cm H vs d e f} (h : RpL cm H vs [d, e] f) : ∃ v w f1 f2, vs = [v, w] ∧ f = f1 ++ f2 ∧ RpL cm H [v] [d] f1 ∧ RpL cm H [w] [e] f2 := by
  obtain ⟨v, vs', f1, f2, rfl, rfl, h1, h2⟩ := h.cons_of
  obtain ⟨w, rfl⟩ := h2.one_of
  exact ⟨v, w, f1, f2, rfl, rfl, h1, h2⟩
def rMax2 : List V → Hp → VK → Prop := fun xs H Q => ∃ i j, xs = [.int i, .int j] ∧ Q (.int (if j > i then j else i)) H
def BI.max2 : BI where
  r _ := rMax2
  g ds := match ds with
    | [.int i, .int j] => some (.int (if j > i then j else i))
    | _ => none
  ok p ds d h := by
    split at h
    · cases h
      refine ⟨_, rfl, fun H vs f Q r q => ?_⟩
      obtain ⟨v, w, f1, f2, rfl, rfl, h1, h2⟩ := r.two_of
      obtain ⟨rfl, _⟩ := h1.int_of
      obtain ⟨rfl, _⟩ := h2.int_of
      exact ⟨_, _, rfl, q⟩
    · cases h
def rMin2 : List V → Hp → VK → Prop := fun xs H Q => ∃ i j, xs = [.int i, .int j] ∧ Q (.int (if j < i then j else i)) H
def BI.min2 : BI where
  r _ := rMin2
  g ds := match ds with
    | [.int i, .int j] => some (.int (if j < i then j else i))
    | _ => none
  ok p ds d h := by
    split at h
    · cases h
      refine ⟨_, rfl, fun H vs f Q r q => ?_⟩
      obtain ⟨v, w, f1, f2, rfl, rfl, h1, h2⟩ := r.two_of
      obtain ⟨rfl, _⟩ := h1.int_of
      obtain ⟨rfl, _⟩ := h2.int_of
      exact ⟨_, _, rfl, q⟩
    · cases h
def rInt1 : List V → Hp → VK → Prop := fun xs H Q => (∃ i, xs = [.int i] ∧ Q (.int i) H) ∨ ∃ k, xs = [.bl k] ∧ Q (.int (if k then 1 else 0)) H
def BI.int1 : BI where
  r _ := rInt1
  g ds := match ds with
    | [.int i] => some (.int i)
    | [.bl k] => some (.int (if k then 1 else 0))
    | _ => none
  ok p ds d h := by
    split at h
    · cases h
      refine ⟨_, rfl, fun H vs f Q r q => ?_⟩
      obtain ⟨v, rfl⟩ := r.one_of
      obtain ⟨rfl, _⟩ := r.int_of
      exact .inl ⟨_, rfl, q⟩
    · cases h
      refine ⟨_, rfl, fun H vs f Q r q => ?_⟩
      obtain ⟨v, rfl⟩ := r.one_of
      obtain ⟨rfl, _⟩ := r.bl_of
      exact .inr ⟨_, rfl, q⟩
    · cases h
/-- the ints of a list -/
def intsOf : List D → Option (List Int)
  | [] => some []
  | .int i :: ds => (intsOf ds).map (i :: ·)
  | _ => none
theorem intsOf_of : ∀ {ds : List D} {ns : List Int}, intsOf ds = some ns → ds = ns.map D.int
  | [], ns, h => by cases h; rfl
  | .int i :: ds, ns, h => by
    obtain ⟨ms, e, rfl⟩ := Option.map_eq_some_iff.mp (show (intsOf ds).map (i :: ·) = some ns from h)
    rw [List.map_cons, ← intsOf_of e]
  | .non :: _, _, h => by cases h
  | .bl _ :: _, _, h => by cases h
  | .str _ :: _, _, h => by cases h
  | .tup _ :: _, _, h => by cases h
  | .lst _ :: _, _, h => by cases h
  | .dct _ :: _, _, h => by cases h
  | .ins _ _ :: _, _, h => by cases h
  | .scr _ :: _, _, h => by cases h
theorem intsOf_map : ∀ ns : List Int, intsOf (ns.map D.int) = some ns
  | [] => rfl
  | n :: ns => by
    show (intsOf (ns.map D.int)).map (n :: ·) = _
    rw [intsOf_map ns]; rfl
theorem flat_ints (ns : List Int) : (ns.map D.int).all flatD = true := by
  rw [List.all_map, List.all_eq_true]
  intro x _; rfl
theorem RpL.ints {cm H vs f} {ns : List Int} (h : RpL cm H vs (ns.map D.int) f) : vs = ns.map V.int ∧ f = [] := by
  obtain ⟨a, b⟩ := h.flat (flat_ints ns)
  refine ⟨?_, b⟩
  rw [a, List.map_map]; rfl
def BI.sum : BI where
  r p := rSum p.cm.K
  g ds := match ds with
    | [.lst xs] => (intsOf xs).map fun ns => .int ns.sum
    | _ => none
  ok p ds d h := by
    split at h
    · obtain ⟨ns, e, rfl⟩ := Option.map_eq_some_iff.mp h
      refine ⟨_, rfl, fun H vs f Q r q => ?_⟩
      obtain ⟨v, rfl⟩ := r.one_of
      obtain ⟨a, us, g, rfl, rd, rr, _⟩ := r.lst_of
      obtain rfl := intsOf_of e
      obtain ⟨rfl, _⟩ := rr.ints
      exact ⟨a, ns, rfl, .inl rd, q⟩
    · cases h
def boolsOf : List D → Option (List Bool)
  | [] => some []
  | .bl i :: ds => (boolsOf ds).map (i :: ·)
  | _ => none
theorem boolsOf_of : ∀ {ds : List D} {ns : List Bool}, boolsOf ds = some ns → ds = ns.map D.bl
  | [], ns, h => by cases h; rfl
  | .bl i :: ds, ns, h => by
    obtain ⟨ms, e, rfl⟩ := Option.map_eq_some_iff.mp (show (boolsOf ds).map (i :: ·) = some ns from h)
    rw [List.map_cons, ← boolsOf_of e]
  | .non :: _, _, h => by cases h
  | .int _ :: _, _, h => by cases h
  | .str _ :: _, _, h => by cases h
  | .tup _ :: _, _, h => by cases h
  | .lst _ :: _, _, h => by cases h
  | .dct _ :: _, _, h => by cases h
  | .ins _ _ :: _, _, h => by cases h
  | .scr _ :: _, _, h => by cases h
theorem RpL.bools {cm H vs} {ns : List Bool} {f} (h : RpL cm H vs (ns.map D.bl) f) : vs = ns.map V.bl ∧ f = [] := by
  obtain ⟨a, b⟩ := h.flat (by rw [List.all_map, List.all_eq_true]; intro x _; rfl)
  refine ⟨?_, b⟩
  rw [a, List.map_map]; rfl
def BI.all : BI where
  r p := rAll p.cm.K
  g ds := match ds with
    | [.lst xs] => (boolsOf xs).map fun ns => .bl (ns.all id)
    | _ => none
  ok p ds d h := by
    split at h
    · obtain ⟨ns, e, rfl⟩ := Option.map_eq_some_iff.mp h
      refine ⟨_, rfl, fun H vs f Q r q => ?_⟩
      obtain ⟨v, rfl⟩ := r.one_of
      obtain ⟨a, us, g, rfl, rd, rr, _⟩ := r.lst_of
      obtain rfl := boolsOf_of e
      obtain ⟨rfl, _⟩ := rr.bools
      exact ⟨a, ns, rfl, .inl rd, q⟩
    · cases h
def BI.any : BI where
  r p := rAny p.cm.K
  g ds := match ds with
    | [.lst xs] => (boolsOf xs).map fun ns => .bl (ns.any id)
    | _ => none
  ok p ds d h := by
    split at h
    · obtain ⟨ns, e, rfl⟩ := Option.map_eq_some_iff.mp h
      refine ⟨_, rfl, fun H vs f Q r q => ?_⟩
      obtain ⟨v, rfl⟩ := r.one_of
      obtain ⟨a, us, g, rfl, rd, rr, _⟩ := r.lst_of
      obtain rfl := boolsOf_of e
      obtain ⟨rfl, _⟩ := rr.bools
      exact ⟨a, ns, rfl, .inl rd, q⟩
    · cases h
/-! ### isinstance -/
inductive Ty where
  | int | bool | str | list | tuple | dict
  deriving DecidableEq
def Ty.n : Ty → String
  | .int => "int"
  | .bool => "bool"
  | .str => "str"
  | .list => "list"
  | .tuple => "tuple"
  | .dict => "dict"
def isiD (T : Ty) : D → Option Bool
  | .non => some false
  | .bl _ => some (T == .int || T == .bool)
  | .int _ => some (T == .int)
  | .str _ => some (T == .str)
  | .tup _ => some (T == .tuple)
  | .lst _ => some (T == .list)
  | .scr _ => some (T == .list)
  | .dct _ => some (T == .dict)
  | .ins _ _ => none
theorem kit_t (K : PySem.W.Frag) (a : String) (T : Ty) (b : Bool) (h : (a = "NoneType" ∧ b = false) ∨ (a = "bool" ∧ b = (T == .int || T == .bool)) ∨ (a = "int" ∧ b = (T == .int)) ∨ (a = "str" ∧ b = (T == .str)) ∨ (a = "tuple" ∧ b = (T == .tuple)) ∨ (a = "list" ∧ b = (T == .list)) ∨ (a = "dict" ∧ b = (T == .dict))) : PySem.W.kitOne K (.type a) (.type T.n) = some b := by
  rcases h with ⟨rfl, rfl⟩ | ⟨rfl, rfl⟩ | ⟨rfl, rfl⟩ | ⟨rfl, rfl⟩ | ⟨rfl, rfl⟩ | ⟨rfl, rfl⟩ | ⟨rfl, rfl⟩ <;> cases T <;> exact kit_ty (by decide +kernel)
def XE.isi (T : Ty) (a : XE) : XE where
  t p := tCB (rIsi p.cm.K) (tCons (a.t p) (tCons (tC (.ty T.n)) tNil))
  f env := b1 (a.f env) fun d => (isiD T d).map fun b => .ok (.bl b)
  mo ms := match a.mo ms with
    | some (_, m1) => some (.own, m1)
    | none => none
  ok p ms k ms' hm Z H σ env OW Q E hP := by
    split at hm
    case h_2 => cases hm
    next k1 m1 e =>
    cases hm
    refine XE.one a e E hP fun d v H1 f1 Z1 OW1 _ e1 s1 E1 r1 K1 hP1 => ?_
    have fin : ∀ b t, isiD T d = some b → TyX p.cm.K H1 v (.type t) → PySem.W.kitOne p.cm.K (.type t) (.type T.n) = some b → rIsi p.cm.K [v, .ty T.n] H1 Q := fun b t q ty kt => by
      rw [q] at hP1
      exact ⟨v, .ty T.n, _, _, b, rfl, .ty _, ty, kt, hP1 _ H1 [] Z1 OW1 e1 s1 E1 (RpL.at rfl) (KdOk.nil _)⟩
    cases d with
    | non => obtain ⟨rfl, _⟩ := r1.non_of; exact fin _ "NoneType" rfl (.base .non) (kit_t _ _ _ _ (.inl ⟨rfl, rfl⟩))
    | bl b => obtain ⟨rfl, _⟩ := r1.bl_of; exact fin _ "bool" rfl (.base (.bl b)) (kit_t _ _ _ _ (.inr (.inl ⟨rfl, rfl⟩)))
    | int b => obtain ⟨rfl, _⟩ := r1.int_of; exact fin _ "int" rfl (.base (.int b)) (kit_t _ _ _ _ (.inr (.inr (.inl ⟨rfl, rfl⟩))))
    | str b => obtain ⟨rfl, _⟩ := r1.str_of; exact fin _ "str" rfl (.base (.str b)) (kit_t _ _ _ _ (.inr (.inr (.inr (.inl ⟨rfl, rfl⟩)))))
    | tup b =>
      obtain ⟨a, us, rfl, rd, _⟩ := r1.tup_of
      refine fin _ "tuple" rfl ?_ (kit_t _ _ _ _ (.inr (.inr (.inr (.inr (.inl ⟨rfl, rfl⟩))))))
      rcases rd with rd | ⟨o, rd⟩
      · exact .base (.tup rd)
      · exact .fTuple rd
    | lst b =>
      obtain ⟨a, us, g, rfl, rd, _⟩ := r1.lst_of
      refine fin _ "list" rfl ?_ (kit_t _ _ _ _ (.inr (.inr (.inr (.inr (.inr (.inl ⟨rfl, rfl⟩)))))))
      rcases rd with rd | ⟨o, rd⟩
      · exact .base (.lst rd)
      · exact .base (.frz rd)
    | scr b =>
      obtain ⟨a, us, rfl, rd, _⟩ := r1.scr_of
      refine fin _ "list" rfl ?_ (kit_t _ _ _ _ (.inr (.inr (.inr (.inr (.inr (.inl ⟨rfl, rfl⟩)))))))
      rcases rd with ⟨o, rd⟩ | ⟨o, its, n, hk, hc, _⟩
      · exact .base (.frz rd)
      · exact .kList hk hc
    | dct b =>
      obtain ⟨a, us, g, rfl, rd, _⟩ := r1.dct_of
      refine fin _ "dict" rfl ?_ (kit_t _ _ _ _ (.inr (.inr (.inr (.inr (.inr (.inr ⟨rfl, rfl⟩)))))))
      rcases rd with rd | ⟨o, rd⟩
      · exact .base (.dK rd)
      · exact .fDict rd
    | ins c fs => exact hP1.elim
/-! ### parts of owned data -/
def getP : D → List Nat → Option D
  | d, [] => some d
  | .lst ds, n :: p => (ds[n]?).bind fun e => getP e p
  | .tup ds, n :: p => (ds[n]?).bind fun e => getP e p
  | .ins _ fs, n :: p => (fs[n]?).bind fun e => getP e.2 p
  | _, _ => none
def setP : D → List Nat → D → D
  | _, [], x => x
  | .lst ds, n :: p, x => match ds[n]? with
    | some e => .lst (ds.set n (setP e p x))
    | none => .lst ds
  | .tup ds, n :: p, x => match ds[n]? with
    | some e => .tup (ds.set n (setP e p x))
    | none => .tup ds
  | .ins c fs, n :: p, x => match fs[n]? with
    | some e => .ins c (fs.set n (e.1, setP e.2 p x))
    | none => .ins c fs
  | d, _, _ => d
inductive FocV (H : Hp) : V → List Nat → V → Prop
  | nil {v} : FocV H v [] v
  | lst {a us n u p w} : Rd H a (.lst us) → us[n]? = some u → FocV H u p w → FocV H (.ref a) (n :: p) w
  | tup {a us n u p w} : Rd H a (.tup us) → us[n]? = some u → FocV H u p w → FocV H (.ref a) (n :: p) w
  | ins {a C dx n p w} {gs : List (Str × V)} {g} : Rd H a (.ins C dx gs) → gs[n]? = some g → FocV H g.2 p w → FocV H (.ref a) (n :: p) w
theorem Rd.inj {H : Hp} {a : Addr} {u w : HO} (h1 : Rd H a u) (h2 : Rd H a w) (n1 : ∀ o x, u ≠ .frz o x) (n2 : ∀ o x, w ≠ .frz o x) : u = w := by
  rcases h1 with h1 | ⟨o, h1⟩ <;> rcases h2 with h2 | ⟨o2, h2⟩ <;> rw [h1] at h2 <;> cases h2
  · rfl
  · exact absurd rfl (n1 _ _)
  · exact absurd rfl (n2 _ _)
  · rfl
theorem FocV.same {H H' : Hp} {v p w} (h : FocV H v p w) (e : Same H H') : FocV H' v p w := by
  induction h with
  | nil => exact .nil
  | lst r q _ ih => exact .lst (Same.rd e r) q ih
  | tup r q _ ih => exact .tup (Same.rd e r) q ih
  | ins r q _ ih => exact .ins (Same.rd e r) q ih
theorem FocV.inj {H : Hp} {v p w w'} (h : FocV H v p w) : FocV H v p w' → w = w' := by
  induction h with
  | nil => intro h'; cases h'; rfl
  | lst r q _ ih =>
    intro h'
    cases h' with
    | lst r2 q2 h2 =>
      have e := Rd.inj r r2 (fun _ _ z => nomatch z) (fun _ _ z => nomatch z)
      cases e; rw [q] at q2; cases q2; exact ih h2
    | tup r2 q2 h2 =>
      have e := Rd.inj r r2 (fun _ _ z => nomatch z) (fun _ _ z => nomatch z)
      cases e
    | ins r2 q2 h2 =>
      have e := Rd.inj r r2 (fun _ _ z => nomatch z) (fun _ _ z => nomatch z)
      cases e
  | tup r q _ ih =>
    intro h'
    cases h' with
    | tup r2 q2 h2 =>
      have e := Rd.inj r r2 (fun _ _ z => nomatch z) (fun _ _ z => nomatch z)
      cases e; rw [q] at q2; cases q2; exact ih h2
    | lst r2 q2 h2 =>
      have e := Rd.inj r r2 (fun _ _ z => nomatch z) (fun _ _ z => nomatch z)
      cases e
    | ins r2 q2 h2 =>
      have e := Rd.inj r r2 (fun _ _ z => nomatch z) (fun _ _ z => nomatch z)
      cases e
  | ins r q _ ih =>
    intro h'
    cases h' with
    | ins r2 q2 h2 =>
      have e := Rd.inj r r2 (fun _ _ z => nomatch z) (fun _ _ z => nomatch z)
      cases e; rw [q] at q2; cases q2; exact ih h2
    | lst r2 q2 h2 =>
      have e := Rd.inj r r2 (fun _ _ z => nomatch z) (fun _ _ z => nomatch z)
      cases e
    | tup r2 q2 h2 =>
      have e := Rd.inj r r2 (fun _ _ z => nomatch z) (fun _ _ z => nomatch z)
      cases e
/-- an item taken out of its list, and another put in its place -/
theorem RpL.item {cm H vs ds f} (h : RpL cm H vs ds f) : ∀ (n : Nat) (d : D), ds[n]? = some d → ∃ v f1 g f2, vs[n]? = some v ∧ f = f1 ++ g ++ f2 ∧ RpL cm H [v] [d] g ∧
    ∀ H' d'' g'', (∀ ds' us' f', RpL cm H us' ds' f' → (∀ a ∈ f', a ∈ f1 ∨ a ∈ f2) → RpL cm H' us' ds' f') → RpL cm H' [v] [d''] g'' → RpL cm H' vs (ds.set n d'') (f1 ++ g'' ++ f2) := by
  induction ds generalizing vs f with
  | nil => intro n d e; simp at e
  | cons d0 ds ih =>
    obtain ⟨v, vs', f1, f2, rfl, rfl, h1, h2⟩ := h.cons_of
    intro n d e
    cases n with
    | zero =>
      simp at e; subst e
      refine ⟨v, [], f1, f2, rfl, by simp, h1, fun H' d'' g'' k r => ?_⟩
      rw [List.nil_append]
      exact r.cons1 (k _ _ _ h2 fun a ha => .inr ha)
    | succ n =>
      obtain ⟨v2, e1, g, e2, q1, rfl, q3, q4⟩ := ih h2 n d (by simpa using e)
      refine ⟨v2, f1 ++ e1, g, e2, by simpa using q1, by simp, q3, fun H' d'' g'' k r => ?_⟩
      have := q4 H' d'' g'' (fun ds' us' f' r' s' => k ds' us' f' r' fun a ha => (s' a ha).imp (List.mem_append_right _) id) r
      have z := (k _ _ _ h1 fun a ha => .inl (List.mem_append_left _ ha)).cons1 this
      rw [show f1 ++ e1 ++ g'' ++ e2 = f1 ++ (e1 ++ g'' ++ e2) by simp]
      exact z
/-- the rest stands when the part at g changes -/
theorem RpL.aside {cm H H' vs ds f} {g : List Addr} (h : RpL cm H vs ds f) (fr : Fr g H H') (n : ∀ a ∈ f, a ∉ g) (w : ∀ a ∈ g, WrA H a) : RpL cm H' vs ds f := h.later fr n w
theorem RpL.focus {cm : CM} {H : Hp} : ∀ (p : List Nat) (v : V) (d : D) (f : List Addr) (d' : D), RpL cm H [v] [d] f → f.Nodup → (∀ a ∈ f, WrA H a) → getP d p = some d' →
    ∃ v' f1 g f2, f = f1 ++ g ++ f2 ∧ FocV H v p v' ∧ RpL cm H [v'] [d'] g ∧ ∀ H' d'' g'', Fr g H H' → RpL cm H' [v'] [d''] g'' → RpL cm H' [v] [setP d p d''] (f1 ++ g'' ++ f2)
  | [], v, d, f, d', r, _, _, e => by
    have e' : some d = some d' := by cases d <;> exact e
    cases e'
    refine ⟨v, [], f, [], by simp, .nil, r, fun H' d'' g'' _ r' => ?_⟩
    have : setP d [] d'' = d'' := by cases d <;> rfl
    rw [this]
    simpa using r'
  | n :: p, v, .lst ds, f, d', r, nd, w, e => by
    obtain ⟨a, us, g0, rfl, rd, rr, rfl⟩ := r.lst_of
    obtain ⟨e0, q, e1⟩ := Option.bind_eq_some_iff.mp (show (ds[n]?).bind (fun e => getP e p) = some d' from e)
    obtain ⟨u, f1, g, f2, hu, rfl, ru, put⟩ := rr.item n e0 q
    obtain ⟨na, nd⟩ := List.nodup_cons.mp nd
    obtain ⟨nd1, nd2, nd3⟩ := List.nodup_append.mp nd
    obtain ⟨nd4, nd5, nd6⟩ := List.nodup_append.mp nd1
    have wg : ∀ x ∈ g, WrA H x := fun x hx => w x (by simp [hx])
    obtain ⟨v', h1, gg, h2, rfl, fo, rg, put2⟩ := RpL.focus p u e0 g d' ru nd5 wg e1
    refine ⟨v', a :: (f1 ++ h1), gg, h2 ++ f2, by simp, .lst rd hu fo, rg, fun H' d'' g'' fr r' => ?_⟩
    have es : setP (.lst ds) (n :: p) d'' = .lst (ds.set n (setP e0 p d'')) := by
      show (match ds[n]? with | some e => D.lst (ds.set n (setP e p d'')) | none => .lst ds) = _
      rw [q]
    rw [es]
    have r2 := put2 H' d'' g'' fr r'
    have ng : ∀ x, x ∈ f1 ∨ x ∈ f2 → x ∉ gg := fun x hx z => by
      have zg : x ∈ h1 ++ gg ++ h2 := by simp [z]
      rcases hx with hx | hx
      · exact nd6 x hx x zg rfl
      · exact nd3 x (List.mem_append_right _ zg) x hx rfl
    have r3 := put H' _ _ (fun ds' us' f' rr' s' => rr'.aside fr (fun x hx => ng x (s' x hx)) fun x hx => wg x (by simp [hx])) r2
    have : a ∉ gg := fun z => na (by simp [z])
    have z := RpL.lst1 (rd_later fr rd this) r3
    rw [show a :: (f1 ++ h1) ++ g'' ++ (h2 ++ f2) = a :: (f1 ++ (h1 ++ g'' ++ h2) ++ f2) by simp]
    exact z
  | n :: p, v, .tup ds, f, d', r, nd, w, e => by
    obtain ⟨a, us, rfl, rd, rr⟩ := r.tup_of
    obtain ⟨e0, q, e1⟩ := Option.bind_eq_some_iff.mp (show (ds[n]?).bind (fun e => getP e p) = some d' from e)
    obtain ⟨u, f1, g, f2, hu, rfl, ru, put⟩ := rr.item n e0 q
    obtain ⟨nd1, nd2, nd3⟩ := List.nodup_append.mp nd
    obtain ⟨nd4, nd5, nd6⟩ := List.nodup_append.mp nd1
    have wg : ∀ x ∈ g, WrA H x := fun x hx => w x (by simp [hx])
    obtain ⟨v', h1, gg, h2, rfl, fo, rg, put2⟩ := RpL.focus p u e0 g d' ru nd5 wg e1
    refine ⟨v', f1 ++ h1, gg, h2 ++ f2, by simp, .tup rd hu fo, rg, fun H' d'' g'' fr r' => ?_⟩
    have es : setP (.tup ds) (n :: p) d'' = .tup (ds.set n (setP e0 p d'')) := by
      show (match ds[n]? with | some e => D.tup (ds.set n (setP e p d'')) | none => .tup ds) = _
      rw [q]
    rw [es]
    have r2 := put2 H' d'' g'' fr r'
    have ng : ∀ x, x ∈ f1 ∨ x ∈ f2 → x ∉ gg := fun x hx z => by
      have zg : x ∈ h1 ++ gg ++ h2 := by simp [z]
      rcases hx with hx | hx
      · exact nd6 x hx x zg rfl
      · exact nd3 x (List.mem_append_right _ zg) x hx rfl
    have wgg : ∀ x ∈ gg, WrA H x := fun x hx => wg x (by simp [hx])
    have r3 := put H' _ _ (fun ds' us' f' rr' s' => rr'.aside fr (fun x hx => ng x (s' x hx)) wgg) r2
    have na : a ∉ gg := fun z => by
      obtain ⟨u, e, wu⟩ := wgg a z
      rcases rd with r | ⟨o, r⟩
      · rw [e] at r; cases r; exact wu
      · rw [e] at r; cases r; exact wu
    have z := RpL.tup1 (rd_later fr rd na) r3
    rw [show f1 ++ h1 ++ g'' ++ (h2 ++ f2) = f1 ++ (h1 ++ g'' ++ h2) ++ f2 by simp]
    exact z
  | n :: p, v, .ins c fs, f, d', r, nd, w, e => by
    obtain ⟨a, dx, gs, g0, rfl, rd, ek, rr, rfl⟩ := r.ins_of
    obtain ⟨e0, q, e1⟩ := Option.bind_eq_some_iff.mp (show (fs[n]?).bind (fun e => getP e.2 p) = some d' from e)
    obtain ⟨u, f1, g, f2, hu, rfl, ru, put⟩ := rr.item n e0.2 (by rw [List.getElem?_map, q]; rfl)
    obtain ⟨na, nd⟩ := List.nodup_cons.mp nd
    obtain ⟨nd1, nd2, nd3⟩ := List.nodup_append.mp nd
    obtain ⟨nd4, nd5, nd6⟩ := List.nodup_append.mp nd1
    have wg : ∀ x ∈ g, WrA H x := fun x hx => w x (by simp [hx])
    obtain ⟨v', h1, gg, h2, rfl, fo, rg, put2⟩ := RpL.focus p u e0.2 g d' ru nd5 wg e1
    rw [List.getElem?_map] at hu
    obtain ⟨gn, hgn, rfl⟩ := Option.map_eq_some_iff.mp hu
    refine ⟨v', a :: (f1 ++ h1), gg, h2 ++ f2, by simp, .ins rd hgn fo, rg, fun H' d'' g'' fr r' => ?_⟩
    have es : setP (.ins c fs) (n :: p) d'' = .ins c (fs.set n (e0.1, setP e0.2 p d'')) := by
      show (match fs[n]? with | some e => D.ins c (fs.set n (e.1, setP e.2 p d'')) | none => .ins c fs) = _
      rw [q]
    rw [es]
    have r2 := put2 H' d'' g'' fr r'
    have ng : ∀ x, x ∈ f1 ∨ x ∈ f2 → x ∉ gg := fun x hx z => by
      have zg : x ∈ h1 ++ gg ++ h2 := by simp [z]
      rcases hx with hx | hx
      · exact nd6 x hx x zg rfl
      · exact nd3 x (List.mem_append_right _ zg) x hx rfl
    have r3 := put H' _ _ (fun ds' us' f' rr' s' => rr'.aside fr (fun x hx => ng x (s' x hx)) fun x hx => wg x (by simp [hx])) r2
    have : a ∉ gg := fun z => na (by simp [z])
    have ef : (fs.set n (e0.1, setP e0.2 p d'')).map (·.2) = (fs.map (·.2)).set n (setP e0.2 p d'') := by rw [List.map_set]
    have ef1 : (fs.set n (e0.1, setP e0.2 p d'')).map (·.1) = fs.map (·.1) := by
      rw [List.map_set]
      exact set_self_of (by rw [List.getElem?_map, q]; rfl)
    rw [← ef] at r3
    have z := RpL.ins1 (rd_later fr rd this) (ek.trans ef1.symm) r3
    rw [show a :: (f1 ++ h1) ++ g'' ++ (h2 ++ f2) = a :: (f1 ++ (h1 ++ g'' ++ h2) ++ f2) by simp]
    exact z
  | n :: p, v, .non, f, d', r, nd, w, e => by cases e
  | n :: p, v, .bl _, f, d', r, nd, w, e => by cases e
  | n :: p, v, .int _, f, d', r, nd, w, e => by cases e
  | n :: p, v, .str _, f, d', r, nd, w, e => by cases e
  | n :: p, v, .dct _, f, d', r, nd, w, e => by cases e
  | n :: p, v, .scr _, f, d', r, nd, w, e => by cases e
end DL
set_option maxRecDepth 100000
namespace DL
open PySem PySem.Spec PyProof.Rows L2
theorem Sl.aside {cm Z H H' ms σ env ow} {g : List Addr} (h : Sl cm Z H ms σ env ow) (fr : Fr g H H') (n : ∀ a, Z.n a → a ∉ g) (sub : ∀ a, Z.s a → Z.n a) (w : ∀ a ∈ g, WrA H a) : (∀ a ∈ ow, a ∉ g) → Sl cm Z H' ms σ env ow := by
  induction h with
  | nil => exact fun _ => .nil
  | dead _ ih => exact fun q => .dead (ih q)
  | sh r z _ ih => exact fun q => .sh (r.aside fr (fun a ha => n a (sub a (z a ha))) w) z (ih q)
  | bor r z _ ih => exact fun q => .bor (r.aside fr (fun a ha => n a (z a ha)) w) z (ih q)
  | own r _ ih => exact fun q => .own (r.aside fr (fun a ha => q a (List.mem_append_left _ ha)) w) (ih fun a ha => q a (List.mem_append_right _ ha))
theorem nodup_mid {α : Type} {a b c d : List α} (h : (a ++ b ++ c).Nodup) (hd : d.Nodup) (hs : ∀ x ∈ d, x ∈ b ∨ (x ∉ a ∧ x ∉ c)) : (a ++ d ++ c).Nodup := by
  obtain ⟨h1, h2, h3⟩ := List.nodup_append.mp h
  obtain ⟨h4, h5, h6⟩ := List.nodup_append.mp h1
  refine List.nodup_append.mpr ⟨List.nodup_append.mpr ⟨h4, hd, fun x hx y hy z => ?_⟩, h2, fun x hx y hy z => ?_⟩
  · subst z
    rcases hs x hy with q | q
    · exact h6 x hx x q rfl
    · exact q.1 hx
  · subst z
    rcases List.mem_append.mp hx with hx | hx
    · exact h3 x (List.mem_append_left _ hx) x hy rfl
    · rcases hs x hx with q | q
      · exact h3 x (List.mem_append_right _ q) x hy rfl
      · exact q.2 hy
/-- THE CHANGE of an object that a slot owns -/
theorem ER.change {cm ms Z H σ env OW} (E : ER cm ms Z H σ env OW) {i : Nat} (hi : ms[i]? = some .own) {d d' : D} (hd : env[i]? = some (some d)) {path : List Nat} (hp : getP d path = some d') {v0 : V} (hv : σ[i]? = some (some v0)) {a : Addr} (hf : FocV H v0 path (.ref a)) :
    ∃ g, RpL cm H [.ref a] [d'] g ∧ (∀ x ∈ g, x ∈ OW) ∧ g.Nodup ∧ ∀ (o' : HO) (d'' : D) (g'' ex : List Addr), a ∈ g → Writ o' → RpL cm (upd H a o') [.ref a] [d''] g'' → g''.Nodup → (∀ x ∈ g'', x ∈ g ∨ x ∈ ex) → (∀ x ∈ ex, x ∉ OW ∧ ¬ Z.n x ∧ WrA H x) →
      ∃ OW', ER cm ms Z (upd H a o') σ (env.set i (some (setP d path d''))) OW' ∧ (∀ x ∈ OW', x ∈ OW ∨ x ∈ ex) ∧ Fr OW H (upd H a o') ∧ Stp Z OW H Z OW (upd H a o') := by
  obtain ⟨v, dd, f, OW1, e1, e2, r, s', z1, z2, z3⟩ := E.sl.move i hi
  obtain ⟨n1, n2, n3⟩ := z3 E.nd
  rw [hd] at e2; cases e2
  rw [hv] at e1; cases e1
  obtain ⟨v', f1, g, f2, rfl, fo, rg, put⟩ := RpL.focus path v0 d f d' r n1 (fun x hx => E.wr x (z1 x hx)) hp
  have ev := fo.inj hf
  subst ev
  have gs : ∀ x ∈ g, x ∈ OW := fun x hx => z1 x (by simp [hx])
  have gn : g.Nodup := by
    obtain ⟨h1, h2, h3⟩ := List.nodup_append.mp n1
    exact (List.nodup_append.mp h1).2.1
  refine ⟨g, rg, gs, gn, fun o' d'' g'' ex ha wo r'' nd'' sb hex => ?_⟩
  have fr : Fr g H (upd H a o') := fun b u q hb => by
    rw [upd_ne (fun z => hb (by rw [z]; exact ha))]
    exact q
  have wg : ∀ x ∈ g, WrA H x := fun x hx => E.wr x (gs x hx)
  have r3 := put (upd H a o') d'' g'' fr r''
  have sa := s'.aside fr (fun x hx z => E.dis x (gs x z) hx) E.sub wg (fun x hx z => n3 x (by simp [z]) hx)
  have lt : i < ms.length := by
    rcases Nat.lt_or_ge i ms.length with h | h
    · exact h
    · rw [List.getElem?_eq_none h] at hi; cases hi
  obtain ⟨o2, a2, b2, c2⟩ := sa.put i v0 (setP d path d'') (f1 ++ g'' ++ f2) (List.getElem?_set_self lt) r3
  rw [List.set_set, set_self_of hi, set_self_of hv] at a2
  have exno : ∀ x ∈ ex, x ∉ OW := fun x hx => (hex x hx).1
  have inF : ∀ x ∈ f1 ++ g'' ++ f2, x ∈ OW ∨ x ∈ ex := fun x hx => by
    rcases List.mem_append.mp hx with hx | hx
    · rcases List.mem_append.mp hx with hx | hx
      · exact .inl (z1 x (by simp [hx]))
      · exact (sb x hx).imp (gs x) id
    · exact .inl (z1 x (by simp [hx]))
  have ndF : (f1 ++ g'' ++ f2).Nodup := nodup_mid n1 nd'' fun x hx => by
    rcases sb x hx with q | q
    · exact .inl q
    · exact .inr ⟨fun z => exno x q (z1 x (by simp [z])), fun z => exno x q (z1 x (by simp [z]))⟩
  have disF : ∀ x ∈ f1 ++ g'' ++ f2, x ∉ OW1 := fun x hx z => by
    rcases List.mem_append.mp hx with hx | hx
    · rcases List.mem_append.mp hx with hx | hx
      · exact n3 x (by simp [hx]) z
      · rcases sb x hx with q | q
        · exact n3 x (by simp [q]) z
        · exact exno x q (z2 x z)
    · exact n3 x (by simp [hx]) z
  have sO : ∀ x ∈ o2, x ∈ OW ∨ x ∈ ex := fun x hx => (b2 x hx).elim (inF x) fun q => .inl (z2 x q)
  have wU : ∀ x, WrA H x → WrA (upd H a o') x := fun x ⟨u, q, w⟩ => by
    by_cases e : x = a
    · subst e; exact ⟨o', upd_same, wo⟩
    · exact ⟨u, by rw [upd_ne e]; exact q, w⟩
  have gro : ∀ x, H x ≠ none → upd H a o' x ≠ none := fun x q => by
    by_cases e : x = a
    · subst e; rw [upd_same]; intro z; cases z
    · rw [upd_ne e]; exact q
  refine ⟨o2, ⟨a2, c2 n2 ndF disF, fun x hx => ?_, fun x hx => ?_, fun x hx => gro x (E.tr x hx), E.sub⟩, sO, fun b u q hb => ?_, ⟨fun x hx => .inl hx, fun _ q => q, fun _ q => q, fun _ q => .inl q, fun _ q => .inl q, gro⟩⟩
  · rcases sO x hx with q | q
    · exact wU x (E.wr x q)
    · exact wU x (hex x q).2.2
  · rcases sO x hx with q | q
    · exact E.dis x q
    · exact (hex x q).2.1
  · rw [upd_ne (fun z => hb (by rw [z]; exact gs a ha))]
    exact q
/-! ### where an object stands -/
def PoP (p : Pm) (i : Nat) (ms' : List M) (Z : Zn) (H : Hp) (σ : L2.St) (env : EnvD) (OW : List Addr) (r : Option (R (List Nat))) (Q : VK) : Prop :=
  match r with
  | none => False
  | some (.ok path) => ∀ v0 v' H' Z' OW', Same H H' → Stp Z OW H Z' OW' H' → ER p.cm ms' Z' H' σ env OW' → σ[i]? = some (some v0) → FocV H' v0 path v' → Q v' H'
  | some (.ex c pl) => ∀ dd H', Same H H' → ExD p.cm H' dd pl → p.W (.ref (p.cm.c c)) dd σ H'
structure XP where
  i : Nat
  t : Pm → TE
  f : EnvD → Option (R (List Nat))
  mo : List M → Option (List M)
  ok : ∀ p ms ms', mo ms = some ms' → ∀ Z H σ env OW Q, ER p.cm ms Z H σ env OW → PoP p i ms' Z H σ env OW (f env) Q → t p σ H Q
def XP.s (i : Nat) : XP where
  i := i
  t _ := tVar i
  f _ := some (.ok [])
  mo ms := if ms[i]? = some .own then some ms else none
  ok p ms ms' hm Z H σ env OW Q E hP := by
    split at hm
    case isFalse => cases hm
    next e =>
    cases hm
    obtain ⟨v, d, f, e1, e2, _⟩ := E.sl.at i _ e (by intro z; cases z)
    exact ⟨v, e1, hP v v H Z OW (Same.refl H) Stp.refl E e1 .nil⟩
theorem FocV.snoc {H : Hp} {v p w} (h : FocV H v p w) {n : Nat} {u : V} (k : FocV H w [n] u) : FocV H v (p ++ [n]) u := by
  induction h with
  | nil => exact k
  | lst r q _ ih => exact .lst r q (ih k)
  | tup r q _ ih => exact .tup r q (ih k)
  | ins r q _ ih => exact .ins r q (ih k)
def lenSeq : D → Option Nat
  | .lst ds => some ds.length
  | .tup ds => some ds.length
  | _ => none
def ixP (env : EnvD) (i : Nat) (path : List Nat) (x : D) : Option (R (List Nat)) := match eget env i, x with
  | some (.ok d), .int k => ((getP d path).bind lenSeq).bind fun n => (ixN n k).bind fun j => if j < n then some (.ok (path ++ [j])) else none
  | _, _ => none
def bP (r : Option (R (List Nat))) (rx : Option (R D)) (g : List Nat → D → Option (R (List Nat))) : Option (R (List Nat)) := match r with
  | none => none
  | some (.ex c p) => some (.ex c p)
  | some (.ok path) => match rx with
    | none => none
    | some (.ex c p) => some (.ex c p)
    | some (.ok x) => g path x
def XP.ix (a : XP) (b : XE) : XP where
  i := a.i
  t p := tOp (rIx p.cm.K) (a.t p) (b.t p)
  f env := bP (a.f env) (b.f env) (ixP env a.i)
  mo ms := match a.mo ms with
    | none => none
    | some m1 => match b.mo m1 with
      | none => none
      | some (_, m2) => if m2[a.i]? = some .own then some m2 else none
  ok p ms ms' hm Z H σ env OW Q E hP := by
    split at hm
    · cases hm
    next m1 h1 =>
    split at hm
    · cases hm
    next k m2 h2 =>
    split at hm
    case isFalse => cases hm
    next ho =>
    cases hm
    refine a.ok p ms m1 h1 Z H σ env OW _ E ?_
    cases q : a.f env with
    | none => rw [q] at hP; exact hP
    | some r =>
      rw [q] at hP
      cases r with
      | ex c pl => exact hP
      | ok path =>
        intro v0 v' H1 Z1 OW1 e1 s1 E1 hv fo
        refine b.ok p m1 k ms' h2 Z1 H1 σ env OW1 _ E1 ?_
        cases q2 : b.f env with
        | none => rw [q2] at hP; exact hP
        | some r2 =>
          rw [q2] at hP
          cases r2 with
          | ex c pl => exact fun dd H' e' x => hP dd H' (e1.trans e') x
          | ok x =>
            intro v2 H2 f2 Z2 OW2 e2 s2 E2 r2 _
            have hP : PoP p a.i ms' Z H σ env OW (ixP env a.i path x) Q := hP
            obtain ⟨w0, d, f0, w1, w2, w3, _, _, w4⟩ := E2.sl.at a.i _ ho (by intro z; cases z)
            rw [hv] at w1; cases w1
            have eg : eget env a.i = some (.ok d) := by unfold eget; rw [w2]
            unfold ixP at hP
            rw [eg] at hP
            cases x with
            | int kx =>
              obtain ⟨rfl, _⟩ := r2.int_of
              have hP : PoP p a.i ms' Z H σ env OW (((getP d path).bind lenSeq).bind fun n => (ixN n kx).bind fun j => if j < n then some (.ok (path ++ [j])) else none) Q := hP
              cases qg : getP d path with
              | none => rw [qg] at hP; exact hP.elim
              | some d' =>
                rw [qg] at hP
                obtain ⟨v'', g1, g, g2, rfl, fo2, rg, _⟩ := RpL.focus path v0 d f0 d' w3 ((w4 rfl).2 E2.nd) (fun y hy => E2.wr y ((w4 rfl).1 y hy)) qg
                have := fo2.inj (fo.same e2)
                subst this
                have fin : ∀ ds n j u, PoP p a.i ms' Z H σ env OW ((ixN n kx).bind fun j => if j < n then some (.ok (path ++ [j])) else none) Q → ds = n → ixN n kx = some j → FocV H2 v'' [j] u → j < n → Q u H2 := by
                  intro ds n j u hP en ej fu hj
                  rw [ej] at hP
                  have hP : PoP p a.i ms' Z H σ env OW (if j < n then some (.ok (path ++ [j])) else none) Q := hP
                  rw [if_pos hj] at hP
                  exact hP v0 u H2 Z2 OW2 (e1.trans e2) (s1.trans s2) E2 hv (fo2.snoc fu)
                cases d' with
                | lst ds =>
                  have hP : PoP p a.i ms' Z H σ env OW ((ixN ds.length kx).bind fun j => if j < ds.length then some (.ok (path ++ [j])) else none) Q := hP
                  obtain ⟨b', us, g', rfl, rd, rr, rfl⟩ := rg.lst_of
                  cases qj : ixN ds.length kx with
                  | none => rw [qj] at hP; exact hP.elim
                  | some j =>
                    have hj : j < ds.length := by
                      rw [qj] at hP
                      rcases Nat.lt_or_ge j ds.length with h | h
                      · exact h
                      · have hP : PoP p a.i ms' Z H σ env OW (if j < ds.length then some (.ok (path ++ [j])) else none) Q := hP
                        rw [if_neg (by omega)] at hP
                        exact hP.elim
                    obtain ⟨u, gg, hu, _⟩ := rr.get j _ (List.getElem?_eq_getElem hj)
                    exact .inl ⟨b', us, kx, u, rfl, rfl, .inl rd, by unfold atI; rw [rr.length, qj]; exact hu, fin ds.length ds.length j u hP rfl qj (.lst rd hu .nil) hj⟩
                | tup ds =>
                  have hP : PoP p a.i ms' Z H σ env OW ((ixN ds.length kx).bind fun j => if j < ds.length then some (.ok (path ++ [j])) else none) Q := hP
                  obtain ⟨b', us, rfl, rd, rr⟩ := rg.tup_of
                  cases qj : ixN ds.length kx with
                  | none => rw [qj] at hP; exact hP.elim
                  | some j =>
                    have hj : j < ds.length := by
                      rw [qj] at hP
                      rcases Nat.lt_or_ge j ds.length with h | h
                      · exact h
                      · have hP : PoP p a.i ms' Z H σ env OW (if j < ds.length then some (.ok (path ++ [j])) else none) Q := hP
                        rw [if_neg (by omega)] at hP
                        exact hP.elim
                    obtain ⟨u, gg, hu, _⟩ := rr.get j _ (List.getElem?_eq_getElem hj)
                    exact .inr (.inl ⟨b', us, kx, u, rfl, rfl, .inl rd, by unfold atI; rw [rr.length, qj]; exact hu, fin ds.length ds.length j u hP rfl qj (.tup rd hu .nil) hj⟩)
                | _ => exact hP.elim
            | _ => exact hP.elim
/-! ### changes -/
def bPS (r : Option (R (List Nat))) (env : EnvD) (g : List Nat → Option Out) : Option Out := match r with
  | none => none
  | some (.ex c pl) => some (.ex c pl env)
  | some (.ok path) => g path
theorem XP.stm (a : XP) {p : Pm} {c : Cm} {ms m1 : List M} {Z : Zn} {H : Hp} {σ : L2.St} {env : EnvD} {OW : List Addr} {k : Option (List M)} {En : Ends} {g : List Nat → Option Out} {T : V → Hp → Prop} (h1 : a.mo ms = some m1) (hx : wk ms c.mx = true) (E : ER p.cm ms Z H σ env OW) (hP : PoS p c k Z H OW (bPS (a.f env) env g) En)
    (hok : ∀ path v0 v' H1 Z1 OW1, a.f env = some (.ok path) → Same H H1 → Stp Z OW H Z1 OW1 H1 → ER p.cm m1 Z1 H1 σ env OW1 → σ[a.i]? = some (some v0) → FocV H1 v0 path v' → PoS p c k Z H OW (g path) En → T v' H1) : a.t p σ H T := by
  refine a.ok p ms m1 h1 Z H σ env OW T E ?_
  cases q : a.f env with
  | none => rw [q] at hP; exact hP
  | some r =>
    rw [q] at hP
    cases r with
    | ex cl pl =>
      intro dd H1 e1 x
      obtain ⟨Z1, OW1, E1, hs⟩ := (E.same e1).weak hx
      exact hP dd σ H1 Z1 OW1 (Same.fr e1) ((Stp.same e1).trans hs) E1 x
    | ok path => exact fun v0 v' H1 Z1 OW1 e s E1 hv fo => hok path v0 v' H1 Z1 OW1 q e s E1 hv fo hP
/-- the data at a path changed -/
def chg (env : EnvD) (i : Nat) (path : List Nat) (g : D → Option D) : Option Out := match eget env i with
  | some (.ok d) => ((getP d path).bind g).map fun d'' => .nx (env.set i (some (setP d path d'')))
  | _ => none
def appF (x : D) : D → Option D
  | .lst ds => if ds.length < sizeLine then some (.lst (ds ++ [x])) else none
  | _ => none
/-- the end of a change: what is wanted behind it -/
theorem chg_ok {p : Pm} {c : Cm} {m2 : List M} {Z Z2 : Zn} {H H2 : Hp} {σ : L2.St} {env : EnvD} {OW OW2 : List Addr} {En : Ends} {i : Nat} {path : List Nat} {g : D → Option D} {v0 : V} {a : Addr}
    (hP : PoS p c (some m2) Z H OW (chg env i path g) En) (e2 : Same H H2) (s2 : Stp Z OW H Z2 OW2 H2) (E2 : ER p.cm m2 Z2 H2 σ env OW2) (ho : m2[i]? = some .own) (hv : σ[i]? = some (some v0)) (fo : FocV H2 v0 path (.ref a)) :
    ∃ d' d'' gg, g d' = some d'' ∧ RpL p.cm H2 [.ref a] [d'] gg ∧ (∀ x ∈ gg, x ∈ OW2) ∧ gg.Nodup ∧ ∀ (o' : HO) (g'' ex : List Addr), a ∈ gg → Writ o' → RpL p.cm (upd H2 a o') [.ref a] [d''] g'' → g''.Nodup → (∀ x ∈ g'', x ∈ gg ∨ x ∈ ex) → (∀ x ∈ ex, (x ∉ OW2 ∧ ¬ Z2.n x ∧ WrA H2 x) ∧ (x ∈ OW ∨ H x = none)) → En.nx σ (upd H2 a o') := by
  obtain ⟨w0, d, f0, w1, w2, w3, _, _, w4⟩ := E2.sl.at i _ ho (by intro z; cases z)
  rw [hv] at w1; cases w1
  have eg : eget env i = some (.ok d) := by unfold eget; rw [w2]
  unfold chg at hP
  rw [eg] at hP
  have hP : PoS p c (some m2) Z H OW (((getP d path).bind g).map fun d'' => .nx (env.set i (some (setP d path d'')))) En := hP
  cases qg : getP d path with
  | none => rw [qg] at hP; exact hP.elim
  | some d' =>
    rw [qg] at hP
    have hP : PoS p c (some m2) Z H OW ((g d').map fun d'' => .nx (env.set i (some (setP d path d'')))) En := hP
    cases qd : g d' with
    | none => rw [qd] at hP; exact hP.elim
    | some d'' =>
      rw [qd] at hP
      obtain ⟨gg, rg, sg, ng, put⟩ := E2.change ho w2 qg hv fo
      refine ⟨d', d'', gg, qd, rg, sg, ng, fun o' g'' ex ha wo r'' nd sb hex => ?_⟩
      obtain ⟨OW3, E3, sO, fr, st⟩ := put o' d'' g'' ex ha wo r'' nd sb fun x hx => (hex x hx).1
      have fr0 : Fr OW H (upd H2 a o') := fun b u q hb => (Fr.trans (Same.fr e2) s2 fr) b u q hb
      have st0 := s2.trans st
      refine hP m2 rfl σ (upd H2 a o') Z2 OW3 fr0 ⟨fun x hx => ?_, st0.n1, st0.s1, st0.n2, st0.s2, st0.gro⟩ E3
      rcases sO x hx with q | q
      · exact s2.ow x q
      · exact (hex x q).2
def atP (env : EnvD) (i : Nat) (path : List Nat) : Option D := match eget env i with
  | some (.ok d) => getP d path
  | _ => none
def isLstD : Option D → Bool
  | some (.lst _) => true
  | _ => false
def isDctD : Option D → Bool
  | some (.dct _) => true
  | _ => false
theorem foc_at {cm ms Z H σ env OW} (E : ER cm ms Z H σ env OW) {i : Nat} (ho : ms[i]? = some .own) {path : List Nat} {d' : D} (h : atP env i path = some d') {v0 v' : V} (hv : σ[i]? = some (some v0)) (fo : FocV H v0 path v') : ∃ g, RpL cm H [v'] [d'] g ∧ ∀ x ∈ g, x ∈ OW := by
  obtain ⟨w0, d, f0, w1, w2, w3, _, _, w4⟩ := E.sl.at i _ ho (by intro z; cases z)
  rw [hv] at w1; cases w1
  have eg : eget env i = some (.ok d) := by unfold eget; rw [w2]
  unfold atP at h
  rw [eg] at h
  obtain ⟨v'', g1, g, g2, rfl, fo2, rg, _⟩ := RpL.focus path v0 d f0 d' w3 ((w4 rfl).2 E.nd) (fun y hy => E.wr y ((w4 rfl).1 y hy)) h
  have := fo2.inj fo
  subst this
  exact ⟨g, rg, fun x hx => (w4 rfl).1 x (by simp [hx])⟩
/-- xs.append(e) -/
def XS.app (a : XP) (e : XE) : XS where
  t p := tDrop (tBM p.cm.K "list" rAppend (a.t p) (tCons (e.t p) tNil))
  f env := bPS (a.f env) env fun path => if isLstD (atP env a.i path) then bS (e.f env) env fun x => chg env a.i path (appF x) else none
  mo c ms := match a.mo ms with
    | none => none
    | some m1 => match e.mo m1 with
      | some (.own, m2) => if wk ms c.mx && wk m1 c.mx && decide (m2[a.i]? = some .own) && decide (m1[a.i]? = some .own) then some (some m2) else none
      | _ => none
  ok p c ms k hm Z H σ env OW En E hP := by
    split at hm
    · cases hm
    next m1 h1 =>
    split at hm
    case h_2 => cases hm
    next m2 h2 =>
    split at hm
    case isFalse => cases hm
    next hc =>
    cases hm
    rw [Bool.and_eq_true, Bool.and_eq_true, Bool.and_eq_true] at hc
    obtain ⟨⟨⟨hx, hx1⟩, ho⟩, ho1⟩ := hc
    have ho := of_decide_eq_true ho
    have ho1 := of_decide_eq_true ho1
    refine XP.stm a h1 hx E hP fun path v0 v' H1 Z1 OW1 _ e1 s1 E1 hv fo hP1 => ?_
    have hP1' := PoS.after hP1 (Same.fr e1) s1
    split at hP1'
    case isFalse => exact hP1'.elim
    next hl =>
    cases qa : atP env a.i path with
    | none => rw [qa] at hl; cases hl
    | some dl =>
    cases dl with
    | lst dl0 =>
      obtain ⟨g, rg, _⟩ := foc_at E1 ho1 qa hv fo
      obtain ⟨b, us, g', rfl, rd, _, rfl⟩ := rg.lst_of
      refine ⟨.inl ⟨rfl, us, .inl rd⟩, ?_⟩
      refine XE.stm (T := fun x H2 => tNil σ H2 fun xs H3 => rAppend (.ref b) (x :: xs) H3 fun _ H4 => En.nx σ H4) e h2 hx1 E1 hP1' fun d v H2 f2 Z2 OW2 q e2 s2 E2 r2 K2 hP2 => ?_
      obtain ⟨d', d'', gg, qd, rgg, sg, ng, put⟩ := chg_ok hP2 e2 s2 E2 ho hv (fo.same e2)
      cases d' with
      | lst ds =>
        have qd : (if ds.length < sizeLine then some (D.lst (ds ++ [d])) else none) = some d'' := qd
        split at qd
        case isFalse => cases qd
        next hz =>
        cases qd
        obtain ⟨b', us', g'', he, rd', rr', rfl⟩ := rgg.lst_of
        cases he
        have ex : H2 b = some (.lst us') := rd_wr rd' (E2.wr b (sg b List.mem_cons_self))
        refine ⟨b, us', v, rfl, rfl, ex, by rw [rr'.length]; exact hz, ?_⟩
        have bn : b ∉ f2 := fun z => (K2.2 b z).1 (sg b List.mem_cons_self)
        have nb := (List.nodup_cons.mp ng)
        have fr : Fr [b] H2 (upd H2 b (.lst (us' ++ [v]))) := fun x u q hb => by
          rw [upd_ne (fun z => hb (by rw [z]; exact List.mem_cons_self))]; exact q
        have wb : ∀ x ∈ [b], WrA H2 x := fun x hx => by
          have : x = b := by simpa using hx
          subst this; exact ⟨_, ex, trivial⟩
        have ra := (rr'.append r2).aside (g := [b]) fr (fun x hx z => by
          have : x = b := by simpa using z
          subst this
          rcases List.mem_append.mp hx with hx | hx
          · exact nb.1 hx
          · exact bn hx) wb
        refine put _ (b :: (g'' ++ f2)) f2 List.mem_cons_self trivial (RpL.lst1 (.inl upd_same) ra) ?_ (fun x hx => ?_) fun x hx => ⟨⟨(K2.2 x hx).1, (K2.2 x hx).2.1, (K2.2 x hx).2.2.2⟩, (K2.2 x hx).2.2.1⟩
        · refine List.nodup_cons.mpr ⟨fun z => ?_, List.nodup_append.mpr ⟨nb.2, K2.1, fun x hx y hy z => ?_⟩⟩
          · rcases List.mem_append.mp z with z | z
            · exact nb.1 z
            · exact bn z
          · subst z
            exact (K2.2 x hy).1 (sg x (List.mem_cons_of_mem _ hx))
        · rcases List.mem_cons.mp hx with rfl | hx
          · exact .inl List.mem_cons_self
          · rcases List.mem_append.mp hx with hx | hx
            · exact .inl (List.mem_cons_of_mem _ hx)
            · exact .inr hx
      | _ => cases qd
    | _ => rw [qa] at hl; cases hl
/-- xs[e] = x: x first, then xs, then e -/
def setF (x : D) (k : D) : D → Option D := fun d => match d, k with
  | .lst ds, .int i => (ixN ds.length i).bind fun j => if j < ds.length then some (.lst (ds.set j x)) else none
  | _, _ => none
theorem RpL.setAt {cm H vs ds f} (h : RpL cm H vs ds f) (n : Nat) (d : D) (e : ds[n]? = some d) {v2 d2 g2} (r : RpL cm H [v2] [d2] g2) (nd : f.Nodup) (n2 : g2.Nodup) (dj : ∀ x ∈ g2, x ∉ f) : ∃ f', RpL cm H (vs.set n v2) (ds.set n d2) f' ∧ f'.Nodup ∧ ∀ x ∈ f', x ∈ f ∨ x ∈ g2 := by
  induction ds generalizing vs f n with
  | nil => simp at e
  | cons d0 ds ih =>
    obtain ⟨v, vs', f1, f2, rfl, rfl, h1, h2⟩ := h.cons_of
    obtain ⟨m1, m2, m3⟩ := List.nodup_append.mp nd
    cases n with
    | zero =>
      refine ⟨g2 ++ f2, r.cons1 h2, List.nodup_append.mpr ⟨n2, m2, fun x hx y hy z => dj x hx (List.mem_append_right _ (z ▸ hy))⟩, fun x hx => ?_⟩
      rcases List.mem_append.mp hx with hx | hx
      · exact .inr hx
      · exact .inl (List.mem_append_right _ hx)
    | succ n =>
      obtain ⟨f', a, b, c⟩ := ih h2 n (by simpa using e) m2 fun x hx z => dj x hx (List.mem_append_right _ z)
      refine ⟨f1 ++ f', h1.cons1 a, List.nodup_append.mpr ⟨m1, b, fun x hx y hy z => ?_⟩, fun x hx => ?_⟩
      · subst z
        rcases c x hy with q | q
        · exact m3 x hx x q rfl
        · exact dj x q (List.mem_append_left _ hx)
      · rcases List.mem_append.mp hx with hx | hx
        · exact .inl (List.mem_append_left _ hx)
        · exact (c x hx).imp (List.mem_append_right _) id
def XS.put (e : XE) (a : XP) (b : XE) : XS where
  t p := tAsg (e.t p) (gSub (a.t p) (b.t p) rSetL)
  f env := bS (e.f env) env fun x => bPS (a.f env) env fun path => bS (b.f env) env fun k => chg env a.i path (setF x k)
  mo c ms := match e.mo ms with
    | some (.own, m1) => match a.mo m1 with
      | none => none
      | some m2 => match b.mo m2 with
        | none => none
        | some (_, m3) => if wk ms c.mx && wk m1 c.mx && wk m2 c.mx && decide (m3[a.i]? = some .own) then some (some m3) else none
    | _ => none
  ok p c ms k hm Z H σ env OW En E hP := by
    split at hm
    case h_2 => cases hm
    next m1 h1 =>
    split at hm
    · cases hm
    next m2 h2 =>
    split at hm
    · cases hm
    next k3 m3 h3 =>
    split at hm
    case isFalse => cases hm
    next hc =>
    cases hm
    rw [Bool.and_eq_true, Bool.and_eq_true, Bool.and_eq_true] at hc
    obtain ⟨⟨⟨hx, hx1⟩, hx2⟩, ho⟩ := hc
    have ho := of_decide_eq_true ho
    refine XE.stm e h1 hx E hP fun d v H1 f1 Z1 OW1 q1 e1 s1 E1 r1 K1 hP1 => ?_
    have hP1 := PoS.after hP1 (Same.fr e1) s1
    refine XP.stm (T := fun o H2 => b.t p σ H2 fun i H3 => rSetL o i v H3 fun H4 => En.nx σ H4) a h2 hx1 E1 hP1 fun path v0 v' H2 Z2 OW2 q2 e2 s2 E2 hv fo hP2 => ?_
    have hP2 := PoS.after hP2 (Same.fr e2) s2
    refine XE.stm (T := fun i H3 => rSetL v' i v H3 fun H4 => En.nx σ H4) b h3 hx2 E2 hP2 fun kd kv H3 f3 Z3 OW3 q3 e3 s3 E3 r3 K3 hP3 => ?_
    have s23 := s2.trans s3
    have K1' := K1.later r1.trk s23 (e2.trans e3)
    have r1' := (r1.same e2).same e3
    have fo3 := fo.same e3
    have hP0 : PoS p c (some m3) Z H OW (chg env a.i path (setF d kd)) En := by
      have h := hP
      rw [q1] at h
      have h : PoS p c (some m3) Z H OW (bPS (a.f env) env fun path => bS (b.f env) env fun k => chg env a.i path (setF d k)) En := h
      rw [q2] at h
      have h : PoS p c (some m3) Z H OW (bS (b.f env) env fun k => chg env a.i path (setF d k)) En := h
      rw [q3] at h
      exact h
    obtain ⟨dd, hat, hset⟩ : ∃ dd, atP env a.i path = some dd ∧ ∃ d'', setF d kd dd = some d'' := by
      unfold chg at hP3
      unfold atP
      cases qe : eget env a.i with
      | none => rw [qe] at hP3; exact hP3.elim
      | some r =>
        rw [qe] at hP3
        cases r with
        | ex _ _ => exact hP3.elim
        | ok d0 =>
          cases qg : getP d0 path with
          | none => simp only [qg] at hP3; exact hP3.elim
          | some dd =>
            simp only [qg] at hP3
            cases qs : setF d kd dd with
            | none => simp only [Option.bind_some, qs] at hP3; exact hP3.elim
            | some d'' => exact ⟨dd, qg, d'', qs⟩
    obtain ⟨g0, rg0, _⟩ := foc_at E3 ho hat hv fo3
    cases dd with
    | lst ds0 =>
      obtain ⟨bb, us0, g1, rfl, rd0, rr0, rfl⟩ := rg0.lst_of
      obtain ⟨d', d'', gg, qd, rgg, sg, ng, put⟩ := chg_ok hP0 ((e1.trans e2).trans e3) (s1.trans s23) E3 ho hv fo3
      cases d' with
      | lst ds =>
        cases kd with
        | int ki =>
          obtain ⟨rfl, _⟩ := r3.int_of
          have qd : ((ixN ds.length ki).bind fun j => if j < ds.length then some (D.lst (ds.set j d)) else none) = some d'' := qd
          obtain ⟨j, qj, qd⟩ := Option.bind_eq_some_iff.mp qd
          split at qd
          case isFalse => cases qd
          next hj =>
          cases qd
          obtain ⟨b', us, g2, he, rd, rr, rfl⟩ := rgg.lst_of
          cases he
          have ex : H3 bb = some (.lst us) := rd_wr rd (E3.wr bb (sg bb List.mem_cons_self))
          refine ⟨bb, us, ki, j, rfl, rfl, ex, by rw [rr.length]; exact qj, ?_⟩
          have nb := List.nodup_cons.mp ng
          have bn : bb ∉ f1 := fun z => (K1'.2 bb z).1 (sg bb List.mem_cons_self)
          obtain ⟨f', ra, nf, sf⟩ := rr.setAt j _ (List.getElem?_eq_getElem hj) r1' nb.2 K1'.1 fun x hx z => (K1'.2 x hx).1 (sg x (List.mem_cons_of_mem _ z))
          have bf : bb ∉ f' := fun z => (sf bb z).elim nb.1 bn
          have fr : Fr [bb] H3 (upd H3 bb (.lst (us.set j v))) := fun x u q hb => by
            rw [upd_ne (fun z => hb (by rw [z]; exact List.mem_cons_self))]; exact q
          have wb : ∀ x ∈ [bb], WrA H3 x := fun x hx => by
            have : x = bb := by simpa using hx
            subst this; exact ⟨_, ex, trivial⟩
          have ra' := ra.aside (g := [bb]) fr (fun x hx z => by
            have : x = bb := by simpa using z
            subst this; exact bf hx) wb
          refine put _ (bb :: f') f1 List.mem_cons_self trivial (RpL.lst1 (.inl upd_same) ra') (List.nodup_cons.mpr ⟨bf, nf⟩) (fun x hx => ?_) fun x hx => ⟨⟨(K1'.2 x hx).1, (K1'.2 x hx).2.1, (K1'.2 x hx).2.2.2⟩, (K1'.2 x hx).2.2.1⟩
          rcases List.mem_cons.mp hx with rfl | hx
          · exact .inl List.mem_cons_self
          · exact (sf x hx).imp (List.mem_cons_of_mem _) id
        | _ => cases qd
      | _ => cases kd <;> cases qd
    | _ => obtain ⟨_, hs⟩ := hset; cases kd <;> cases hs
end DL
set_option maxRecDepth 100000
namespace DL
open PySem PySem.Spec PyProof.Rows L2
/-! ### operators of any kind -/
section
variable {X : Cx}
theorem OpR.or {f : Value → Value → Sem Value} {r r' : R2} (h : OpR X f r) (h' : OpR X f r') : OpR X f (fun x y H Q => r x y H Q ∨ r' x y H Q) := by
  intro pins s σ H x y v u Q I rx ry q
  rcases q with q | q
  · exact h pins s σ H x y v u Q I rx ry q
  · exact h' pins s σ H x y v u Q I rx ry q
theorem CallR.or {f : Value} {r r' : List V → Hp → VK → Prop} (h : CallR X f r) (h' : CallR X f r') : CallR X f (fun xs H Q => r xs H Q ∨ r' xs H Q) := by
  intro pins s σ H xs us Q I rs q
  rcases q with q | q
  · exact h pins s σ H xs us Q I rs q
  · exact h' pins s σ H xs us Q I rs q
end
def rAddS : R2 := fun x y H Q => ∃ i j, x = .str i ∧ y = .str j ∧ i.length + j.length ≤ sizeLine ∧ Q (.str (i ++ j)) H
def rAddA (K : PySem.W.Frag) : R2 := fun x y H Q => (rI0 fun i j => .int (i + j)) x y H Q ∨ rCatR x y H Q ∨ rCatA K x y H Q ∨ rAddS x y H Q
theorem op_addA {X : Cx} : OpR X (binaryOp .Add) (rAddA X.K) := OpR.or op_add (OpR.or op_catR (OpR.or op_catA op_add_str))
def addF (im : Bool) (x y : D) : Option (R D) := match x, y with
  | .int i, .int j => some (.ok (.int (i + j)))
  | .lst xs, .lst ys => if xs.length + ys.length ≤ sizeLine then (if !im || immL (xs ++ ys) then some (.ok (.lst (xs ++ ys))) else none) else none
  | .tup xs, .tup ys => if xs.length + ys.length ≤ sizeLine then (if !im || immL (xs ++ ys) then some (.ok (.tup (xs ++ ys))) else none) else none
  | .str a, .str b => if a.length + b.length ≤ sizeLine then some (.ok (.str (a ++ b))) else none
  | _, _ => none
theorem newK_imm {im k OW H Z1 OW1 H1 cm vs ds f} (K : KdOk k OW H Z1 OW1 H1 f) (r : RpL cm H1 vs ds f) (c : (!im || immL ds) = true) : KdOk (newK im k) OW H Z1 OW1 H1 f := by
  cases im with
  | false => exact K
  | true =>
    have : f = [] := r.imm (by simpa using c)
    subst this
    exact KdOk.nil _
/-- a + b -/
def XE.add (im : Bool) (a b : XE) : XE where
  t p := tOp (rAddA p.cm.K) (a.t p) (b.t p)
  f env := b2 (a.f env) (b.f env) (addF im)
  mo ms := match moTwo a b ms with
    | some (k1, k2, m2) => some (newK im (joinK k1 k2), m2)
    | none => none
  ok p ms k ms' hm Z H σ env OW Q E hP := by
    split at hm
    case h_2 => cases hm
    next k1 k2 m2 e =>
    cases hm
    obtain ⟨m1, h1, h2⟩ := moTwo_of e
    refine XE.two a b h1 h2 E hP fun d1 d2 v1 v2 H2 f1 f2 Z2 OW2 _ _ e2 s2 E2 r1 r2 K1 K2 dj hP2 => ?_
    unfold addF at hP2
    split at hP2
    · obtain ⟨rfl, _⟩ := r1.int_of
      obtain ⟨rfl, _⟩ := r2.int_of
      exact .inl ⟨_, _, rfl, rfl, hP2 _ H2 [] Z2 OW2 e2 s2 E2 (RpL.at rfl) (KdOk.nil _)⟩
    · next xs ys _ _ =>
      split at hP2
      · next hz =>
        obtain ⟨l1, us1, g1, rfl, rd1, rr1, rfl⟩ := r1.lst_of
        obtain ⟨l2, us2, g2, rfl, rd2, rr2, rfl⟩ := r2.lst_of
        have K1' := K1.part (f1 := g1) (fun x hx => List.mem_cons_of_mem _ hx) fun n => (List.nodup_cons.mp n).2
        have K2' := K2.part (f1 := g2) (fun x hx => List.mem_cons_of_mem _ hx) fun n => (List.nodup_cons.mp n).2
        obtain ⟨Z3, s3, E3, K3⟩ := KdOk.join K1' K2' s2 E2 rr1.trk rr2.trk fun z1 z2 a ha hb => dj z1 z2 a (List.mem_cons_of_mem _ ha) (List.mem_cons_of_mem _ hb)
        exact .inr (.inl ⟨l1, l2, us1, us2, rfl, rfl, rd1, rd2, by rw [rr1.length, rr2.length]; exact hz, fun q hq => new_list hP2 e2 s3 E3 (rr1.append rr2) K3 q hq⟩)
      · exact hP2.elim
    · next xs ys _ _ =>
      split at hP2
      · next hz =>
        obtain ⟨Z3, s3, E3, K3⟩ := KdOk.join K1 K2 s2 E2 r1.trk r2.trk dj
        have R1 := r1
        have R2 := r2
        obtain ⟨l1, us1, rfl, rd1, rr1⟩ := r1.tup_of
        obtain ⟨l2, us2, rfl, rd2, rr2⟩ := r2.tup_of
        have rj := rr1.append rr2
        by_cases c : (!im || immL (xs ++ ys)) = true
        · have K4 := newK_imm (im := im) K3 rj c
          have hP2 : PoE p (newK im (joinK k1 k2)) ms' Z H σ env OW (if (!im || immL (xs ++ ys)) = true then some (.ok (.tup (xs ++ ys))) else none) Q := hP2
          rw [if_pos c] at hP2
          refine .inr (.inr (.inl ⟨l1, l2, us1, us2, rfl, rfl, .inl rd1, .inl rd2, by rw [rr1.length, rr2.length]; exact hz, fun z => ?_, fun _ z => ?_, fun _ _ q hq => ?_⟩))
          · subst z
            have : xs = [] := by
              have := rr1.length
              cases xs with
              | nil => rfl
              | cons _ _ => cases this
            subst this
            obtain ⟨_, rfl⟩ := rr1.nil_of
            exact hP2 _ H2 f2 Z3 OW2 e2 s3 E3 R2 K4
          · subst z
            have : ys = [] := by
              have := rr2.length
              cases ys with
              | nil => rfl
              | cons _ _ => cases this
            subst this
            obtain ⟨_, rfl⟩ := rr2.nil_of
            rw [List.append_nil] at K4
            have hP2 : PoE p (newK im (joinK k1 k2)) ms' Z H σ env OW (some (.ok (.tup (xs ++ [])))) Q := hP2
            rw [List.append_nil] at hP2
            exact hP2 _ H2 f1 Z3 OW2 e2 s3 E3 R1 K4
          · have e3 := same_upd (o := .tup (us1 ++ us2)) hq
            exact hP2 _ _ (f1 ++ f2) Z3 OW2 (e2.trans e3) (s3.trans (Stp.same e3)) (E3.same e3) (RpL.tup1 (.inl upd_same) (rj.same e3)) (K4.later rj.trk (Stp.same e3) e3)
        · have hP2 : PoE p (newK im (joinK k1 k2)) ms' Z H σ env OW (if (!im || immL (xs ++ ys)) = true then some (.ok (.tup (xs ++ ys))) else none) Q := hP2
          rw [if_neg c] at hP2
          exact hP2.elim
      · exact hP2.elim
    · next x y _ _ =>
      split at hP2
      · next hz =>
        obtain ⟨rfl, rfl⟩ := r1.str_of
        obtain ⟨rfl, rfl⟩ := r2.str_of
        exact .inr (.inr (.inr ⟨x, y, rfl, rfl, hz, hP2 _ H2 [] Z2 OW2 e2 s2 E2 (RpL.at rfl) (KdOk.nil _)⟩))
      · exact hP2.elim
    · exact hP2.elim
/-! ### x[lo:hi] -/
def rSlAny (K : PySem.W.Frag) : V → Option Int → Option Int → Hp → VK → Prop := fun x lo hi H Q => rSlL K x lo hi H Q ∨ rSlA K x lo hi H Q ∨ rSlS x lo hi H Q
theorem sl_any {X : Cx} : SlR X (rSlAny X.K) := SlR.or sl_list (SlR.or sl_tupA sl_str)
def slF (im : Bool) (d : D) (lo hi : Option Int) : Option (R D) := match d with
  | .lst ds => if !im || immL (cutD ds lo hi) then some (.ok (.lst (cutD ds lo hi))) else none
  | .scr ds => if !im || immL (cutD ds lo hi) then some (.ok (.lst (cutD ds lo hi))) else none
  | .tup ds => if !im || immL (cutD ds lo hi) then some (.ok (.tup (cutD ds lo hi))) else none
  | .str z => if z.length ≤ sizeLine then some (.ok (.str (cutS z lo hi))) else none
  | _ => none
def XE.sl (im : Bool) (a : XE) (l h : XO) : XE where
  t p := tSl (rSlAny p.cm.K) (a.t p) (l.t p) (h.t p)
  f env := b3 (a.f env) (l.f env) (h.f env) (slF im)
  mo ms := (mo3 a l h ms).map fun x => (newK im x.1, x.2)
  ok p ms k ms' hm Z H σ env OW Q E hP := by
    obtain ⟨⟨k1, m3⟩, h1, he⟩ := Option.map_eq_some_iff.mp hm
    cases he
    refine XE.three a l h h1 E hP fun d lo hi v H1 f1 Z1 OW1 e1 s1 E1 r1 K1 hP1 => ?_
    cases d with
    | lst ds =>
      obtain ⟨b, us, g, rfl, rd, rr, rfl⟩ := r1.lst_of
      obtain ⟨g', rc, sb, nd⟩ := rr.cutV lo hi
      exact .inl ⟨b, us, rfl, .inl rd, fun q hq => new_list hP1 e1 s1 E1 rc (K1.part (fun x hx => List.mem_cons_of_mem _ (sb x hx)) fun n => nd (List.nodup_cons.mp n).2) q hq⟩
    | scr ds =>
      obtain ⟨b, us, rfl, rd, rr, rfl⟩ := r1.scr_of
      obtain ⟨g', rc, sb, nd⟩ := rr.cutV lo hi
      exact .inl ⟨b, us, rfl, rd.sq, fun q hq => new_list hP1 e1 s1 E1 rc (K1.part sb nd) q hq⟩
    | tup ds =>
      have r0 := r1
      obtain ⟨b, us, rfl, rd, rr⟩ := r1.tup_of
      obtain ⟨g', rc, sb, nd⟩ := rr.cutV lo hi
      have hP1 : PoE p (newK im k1) m3 Z H σ env OW (if !im || immL (cutD ds lo hi) then some (.ok (.tup (cutD ds lo hi))) else none) Q := hP1
      by_cases c : (!im || immL (cutD ds lo hi)) = true
      · rw [if_pos c] at hP1
        refine .inr (.inl ⟨b, us, rfl, .inl rd, fun w => ?_, fun _ q hq => ?_⟩)
        · rw [rr.length] at w
          rw [cut_whole w] at hP1 c
          exact hP1 _ H1 f1 Z1 OW1 e1 s1 E1 r0 (newK_imm K1 rr c)
        · have e2 := same_upd (o := .tup (L2.cutV us lo hi)) hq
          have K2 := (newK_imm (K1.part sb nd) rc c).later rc.trk (Stp.same (Z := Z1) (OW := OW1) e2) e2
          exact hP1 _ _ g' Z1 OW1 (e1.trans e2) (s1.trans (Stp.same e2)) (E1.same e2) (RpL.tup1 (.inl upd_same) (rc.same e2)) K2
      · rw [if_neg c] at hP1; exact hP1.elim
    | str z =>
      obtain ⟨rfl, rfl⟩ := r1.str_of
      have hP1 : PoE p (newK im k1) m3 Z H σ env OW (if z.length ≤ sizeLine then some (.ok (.str (cutS z lo hi))) else none) Q := hP1
      by_cases c : z.length ≤ sizeLine
      · rw [if_pos c] at hP1
        exact .inr (.inr ⟨z, rfl, c, hP1 _ H1 [] Z1 OW1 e1 s1 E1 (RpL.at rfl) (KdOk.nil _)⟩)
      · rw [if_neg c] at hP1; exact hP1.elim
    | _ => exact hP1.elim
/-! ### x in y -/
def rInA (K : PySem.W.Frag) (neg : Bool) : R2 := fun x y H Q => rIn K neg x y H Q ∨ (if neg then rNotInD K else rInD K) x y H Q
theorem op_inA {X : Cx} (hu : X.A.units + 65 < cLine) : OpR X (compareOp .In) (rInA X.K false) := OpR.or op_in_seq (op_inD hu)
theorem op_notInA {X : Cx} (hu : X.A.units + 65 < cLine) : OpR X (compareOp .NotIn) (rInA X.K true) := OpR.or op_notIn_seq (op_notInD hu)
def inAF (neg : Bool) (x y : D) : Option (R D) := match inSF neg x y with
  | some r => some r
  | none => inDF neg x y
/-- x in a list or tuple -/
def XE.inn (neg : Bool) (a b : XE) : XE where
  t p := tOp (rInA p.cm.K neg) (a.t p) (b.t p)
  f env := b2 (a.f env) (b.f env) (inAF neg)
  mo ms := match moTwo a b ms with
    | some (_, _, m2) => some (.own, m2)
    | none => none
  ok p ms k ms' hm Z H σ env OW Q E hP := by
    split at hm
    case h_2 => cases hm
    next k1 k2 m2 e =>
    cases hm
    obtain ⟨m1, h1, h2⟩ := moTwo_of e
    refine XE.two a b h1 h2 E hP fun d1 d2 v1 v2 H2 f1 f2 Z2 OW2 _ _ e2 s2 E2 r1 r2 _ _ _ hP2 => ?_
    unfold inAF at hP2
    split at hP2
    · next r hr =>
      have main : ∀ (ds : List D) (b : Addr) (us : List V) (g : List Addr), v2 = .ref b → (SqL p.cm.K H2 b us ∨ SqT p.cm.K H2 b us) → RpL p.cm H2 us ds g → (if flatD d1 && ds.all flatD then some (R.ok (.bl (if neg then !inV (atV d1) (ds.map atV) else inV (atV d1) (ds.map atV)))) else none) = some r → rIn p.cm.K neg v1 v2 H2 Q := by
        intro ds b us g ev sq rr hP3
        split at hP3
        · next hc =>
          cases hP3
          rw [Bool.and_eq_true] at hc
          obtain ⟨ev1, _⟩ := r1.flat (by rw [List.all_cons, hc.1]; rfl)
          have ev1' : v1 = atV d1 := by
            rw [List.map_cons, List.map_nil] at ev1
            exact (List.cons.inj ev1).1
          obtain ⟨rfl, _⟩ := rr.flat hc.2
          subst ev1'
          exact ⟨b, _, ev, sq, flat_flatV hc.1, flat_all hc.2, hP2 _ H2 [] Z2 OW2 e2 s2 E2 (RpL.at rfl) (KdOk.nil _)⟩
        · cases hP3
      cases d2 with
      | lst ds =>
        obtain ⟨b, us, g, rfl, rd, rr, rfl⟩ := r2.lst_of
        exact .inl (main ds b us g rfl (.inl (.inl rd)) rr hr)
      | tup ds =>
        obtain ⟨b, us, rfl, rd, rr⟩ := r2.tup_of
        exact .inl (main ds b us f2 rfl (.inr (.inl rd)) rr hr)
      | _ => cases hr
    · unfold inDF at hP2
      split at hP2
      · next u w q1 q2 =>
        split at hP2
        · next hs =>
          rw [Bool.and_eq_true] at hs
          have hQ := hP2 _ H2 [] Z2 OW2 e2 s2 E2 (RpL.at rfl) (KdOk.nil _)
          right
          cases neg with
          | true => exact ⟨u, w, r1.dp q1, r2.dp q2, hs.1, hs.2, hQ⟩
          | false => exact ⟨u, w, r1.dp q1, r2.dp q2, hs.1, hs.2, hQ⟩
        · exact hP2.elim
      · exact hP2.elim
/-! ### a list or a tuple walked -/
def iSeq (K : PySem.W.Frag) (tl : TE) : TI := fun σ H R => tl σ H fun x H1 => ∃ a, x = .ref a ∧ (((∃ xs, SqL K H1 a xs) ∧ R (Itl K a) H1) ∨ ((∃ xs, SqT K H1 a xs) ∧ R (Itt K a) H1))
theorem pi_seq {X : Cx} {tg l : Expr} {tl : TE} (hl : PE X l tl) : PI X tg l (iSeq X.K tl) := by
  refine ⟨fun pins s σ H R I h => ?_⟩
  refine thn (hl.run pins s σ H _ I h) fun v s1 ⟨x, H1, I1, r1, q1⟩ => ?_
  obtain ⟨a, e, ⟨⟨xs, hq⟩, q⟩ | ⟨⟨xs, hq⟩, q⟩⟩ := q1
  · subst e
    cases r1
    obtain ⟨its, rv, p, hz⟩ := I1.list hq
    refine wpAny_pyIter_list p.isList ?_
    refine ⟨s1.heap.objs.size, [s1.heap.objs.size], _, _, H1, rfl, I1.kept (t' := s1.toks) fun b o e => Heap.get?_push_of_some _ e, turn_list a _, ⟨_, Heap.get?_push_size _ rfl, rfl, rfl⟩, fun b hb => ?_, q⟩
    have e : b = s1.heap.objs.size := by simpa using hb
    subst e
    exact I1.fpOk (Nat.le_refl _) (I1.hok.fresh (Nat.le_refl _))
  · subst e
    cases r1
    obtain ⟨its, rv, p, hz⟩ := I1.tuple hq
    refine wpAny_pyIter_tuple (show s1.heap.IsTuple a its.toArray from p) ?_
    refine ⟨s1.heap.objs.size, [s1.heap.objs.size], _, _, H1, rfl, I1.kept (t' := s1.toks) fun b o e => Heap.get?_push_of_some _ e, turn_tuple a _, ⟨_, Heap.get?_push_size _ rfl, rfl, rfl⟩, fun b hb => ?_, q⟩
    have e : b = s1.heap.objs.size := by simpa using hb
    subst e
    exact I1.fpOk (Nat.le_refl _) (I1.hok.fresh (Nat.le_refl _))
def seqF (im : Bool) : D → Option (R (List D))
  | .lst ds => if !im || immL ds then some (.ok ds) else none
  | .tup ds => if !im || immL ds then some (.ok ds) else none
  | .scr ds => some (.ok ds)
  | _ => none
def XI.seq (im : Bool) (a : XE) : XI where
  t p := iSeq p.cm.K (a.t p)
  f env := bI (a.f env) (seqF im)
  mo ms := moI im false (a.mo ms)
  ok p ms kd ms' hm Z H σ env OW R E hP := by
    cases ha : a.mo ms with
    | none => rw [ha] at hm; cases hm
    | some km =>
      obtain ⟨k, m1⟩ := km
      rw [ha] at hm
      refine XE.itm a ha E hP fun d v H1 f1 Z1 OW1 _ e1 s1 E1 r1 K1 hP1 => ?_
      cases d with
      | lst ds =>
        have hP1 : PoI p kd ms' Z H σ env OW (if !im || immL ds then some (.ok ds) else none) R := hP1
        by_cases c : (!im || immL ds) = true
        · rw [if_pos c] at hP1
          have tr1 := r1.trk
          obtain ⟨a', us, g, rfl, rd, rr, rfl⟩ := r1.lst_of
          obtain ⟨Z2, s2, E2, rfl, nn, na, k1, k2⟩ := walkKd (p := p) E1 s1 K1 tr1 hm
          have kn : k ≠ .any := fun z => Bool.false_ne_true (na z).2
          refine ⟨a', rfl, .inl ⟨⟨us, .inl rd⟩, hP1 _ H1 Z2 OW1 e1 s2 E2 (itOk_seq (K := p.cm.K) (a := a') E2 rr (fun x hx => nn kn x (List.mem_cons_of_mem _ hx)) ?_ (list_J (.inl ⟨rd, nn kn a' List.mem_cons_self⟩) E2.wr))⟩⟩
          cases im with
          | true =>
            have c' : immL ds = true := by simpa using c
            exact .inl (rr.imm c')
          | false =>
            rcases k2 rfl with ⟨q1, q2⟩ | ⟨q1, q2⟩
            · exact .inr (.inl ⟨q1, fun x hx => q2 x (List.mem_cons_of_mem _ hx)⟩)
            · exact .inr (.inr ⟨q1, fun x hx => q2 x (List.mem_cons_of_mem _ hx)⟩)
        · rw [if_neg c] at hP1; exact hP1.elim
      | scr ds =>
        obtain ⟨a', us, rfl, rd, rr, rfl⟩ := r1.scr_of
        obtain ⟨Z2, s2, E2, rfl, nn, na, k1, k2⟩ := walkKd (p := p) E1 s1 K1 (fun a ha => by cases ha) hm
        exact ⟨a', rfl, .inl ⟨⟨us, rd.sq⟩, hP1 _ H1 Z2 OW1 e1 s2 E2 (itOk_seq (K := p.cm.K) (a := a') E2 rr (fun x hx => by cases hx) (.inl rfl) (list_J (.inr rd) E2.wr))⟩⟩
      | tup ds =>
        have hP1 : PoI p kd ms' Z H σ env OW (if !im || immL ds then some (.ok ds) else none) R := hP1
        by_cases c : (!im || immL ds) = true
        · rw [if_pos c] at hP1
          have tr1 := r1.trk
          obtain ⟨a', us, rfl, rd, rr⟩ := r1.tup_of
          obtain ⟨Z2, s2, E2, rfl, nn, na, k1, k2⟩ := walkKd (p := p) E1 s1 K1 tr1 hm
          have kk : f1 = [] ∨ (k ≠ .any ∧ ((kd = .sh ∧ ∀ x ∈ f1, Z2.s x) ∨ (kd = .bor ∧ ∀ x ∈ f1, Z2.n x))) := by
            cases im with
            | true =>
              have c' : immL ds = true := by simpa using c
              exact .inl (rr.imm c')
            | false => exact .inr ⟨fun z => Bool.false_ne_true (na z).1, k2 rfl⟩
          refine ⟨a', rfl, .inr ⟨⟨us, .inl rd⟩, hP1 _ H1 Z2 OW1 e1 s2 E2 (itOk_seq (K := p.cm.K) (a := a') E2 rr (fun x hx => ?_) (kk.imp id (·.2)) (tup_J rd (tup_notOwn E2 rd)))⟩⟩
          rcases kk with kk | kk
          · subst kk; cases hx
          · exact nn kk.1 x hx
        · rw [if_neg c] at hP1; exact hP1.elim
      | _ => exact hP1.elim
/-! ### enumerate, zip -/
theorem itOk_enum {cm : CM} {K : PySem.W.Frag} {ms : List M} {σ : L2.St} {env : EnvD} {Z : Zn} {OW : List Addr} {H : Hp} {kd : Kd} {a : Addr} {us : List V} {ds : List D} {g : List Addr} (E : ER cm ms Z H σ env OW) (r : RpL cm H us ds g)
    (ng : ∀ x ∈ g, x ∉ OW) (kk : g = [] ∨ ((kd = .sh ∧ ∀ x ∈ g, Z.s x) ∨ (kd = .bor ∧ ∀ x ∈ g, Z.n x))) (hs : (Rd H a (.lst us) ∧ a ∉ OW) ∨ SqF K H a us) :
    ItOk cm (Ite K a) kd Z OW H ((List.range ds.length).zip ds |>.map fun x => .tup [.int (x.1 : Nat), x.2]) := by
  intro Z1 OW1 H1 fr s
  have r1 := r.later fr ng E.wr
  obtain ⟨h1, h2⟩ := list_J hs E.wr H1 fr
  have rd1 : SqL K H1 a us := by
    rcases hs with ⟨rd, na⟩ | rd
    · exact .inl (rd_later fr rd na)
    · have z : SqF K H1 a us := rd.imp (fun ⟨o, z⟩ => ⟨o, frz_later fr z E.wr⟩) id
      exact z.sq
  refine ⟨fun i d e => ?_, fun i hi => ?_⟩
  · rw [List.getElem?_map] at e
    obtain ⟨⟨j, dd⟩, e1, rfl⟩ := Option.map_eq_some_iff.mp e
    obtain ⟨e2, e3⟩ := List.getElem?_zip_eq_some.mp e1
    have hi : i < ds.length := by
      rcases Nat.lt_or_ge i ds.length with q | q
      · exact q
      · rw [List.getElem?_eq_none q] at e3; cases e3
    rw [List.getElem?_range hi] at e2
    have e2' := Option.some.inj e2
    subst e2'
    obtain ⟨v, g', ev, rv, sub, _⟩ := r1.get _ dd e3
    refine ⟨⟨us, v, rd1, ev⟩, fun x H2 hy => ?_⟩
    obtain ⟨T, x0, rfl, hT, rfl, hx⟩ := hy
    have := hx us rd1
    rw [ev] at this
    cases this
    have e4 := same_upd (o := .tup [.int (i : Nat), v]) hT
    refine ⟨e4, g', RpL.tup1 (.inl upd_same) ((RpL.at rfl).cons1 (rv.same e4)), ?_⟩
    rcases kk with kk | ⟨rfl, kk⟩ | ⟨rfl, kk⟩
    · subst kk
      have : g' = [] := by
        cases g' with
        | nil => rfl
        | cons x _ => exact absurd (sub x List.mem_cons_self) (by simp)
      subst this
      exact ⟨fun _ => rfl, KdN.nil _⟩
    · exact ⟨(fun z => by cases z), fun x hx => s.s1 x (kk x (sub x hx))⟩
    · exact ⟨(fun z => by cases z), fun x hx => s.n1 x (kk x (sub x hx))⟩
  · have : us.length ≤ i := by
      rw [r.length]
      simpa using hi
    exact ⟨us, rd1, this⟩
def enumD (ds : List D) : List D := (List.range ds.length).zip ds |>.map fun x => .tup [.int (x.1 : Nat), x.2]
def enumF (im : Bool) : List D → Option (R (List D))
  | [.lst ds] => if !im || immL ds then some (.ok (enumD ds)) else none
  | _ => none
def XI.enum (im : Bool) (as : XA) : XI where
  t p := iEnum p.cm.K (as.t p)
  f env := bLI (as.f env) (enumF im)
  mo ms := moI im false (as.mo ms)
  ok p ms kd ms' hm Z H σ env OW R E hP := by
    cases ha : as.mo ms with
    | none => rw [ha] at hm; cases hm
    | some km =>
      obtain ⟨k, m1⟩ := km
      rw [ha] at hm
      refine XA.itm as ha E hP fun d v H1 f1 Z1 OW1 _ e1 s1 E1 r1 K1 hP1 => ?_
      unfold enumF at hP1
      split at hP1
      · next ds _ =>
        split at hP1
        · next c =>
          have tr1 := r1.trk
          obtain ⟨v1, rfl⟩ := r1.one_of
          obtain ⟨a', us, g, rfl, rd, rr, rfl⟩ := r1.lst_of
          obtain ⟨Z2, s2, E2, rfl, nn, na, k1, k2⟩ := walkKd (p := p) E1 s1 K1 tr1 hm
          have kn : k ≠ .any := fun z => Bool.false_ne_true (na z).2
          refine ⟨a', us, rfl, .inl rd, hP1 _ H1 Z2 OW1 e1 s2 E2 (itOk_enum (K := p.cm.K) (a := a') E2 rr (fun x hx => nn kn x (List.mem_cons_of_mem _ hx)) ?_ (.inl ⟨rd, nn kn a' List.mem_cons_self⟩))⟩
          cases im with
          | true =>
            have c' : immL ds = true := by simpa using c
            exact .inl (rr.imm c')
          | false =>
            rcases k2 rfl with ⟨q1, q2⟩ | ⟨q1, q2⟩
            · exact .inr (.inl ⟨q1, fun x hx => q2 x (List.mem_cons_of_mem _ hx)⟩)
            · exact .inr (.inr ⟨q1, fun x hx => q2 x (List.mem_cons_of_mem _ hx)⟩)
        · exact hP1.elim
      · exact hP1.elim
/-- x op= e of a name -/
def XS.aug (i : Nat) (o : IOp) (e : XE) : XS where
  t p := tAug i (e.t p) (fun x y H Q => o.r x y H Q)
  f env := match eget env i with
    | some (.ok x) => bS (e.f env) env fun y => match iopF o.g x y with
      | some (.ok z) => some (.nx (env.set i (some z)))
      | _ => none
    | _ => none
  mo c ms := match e.mo ms with
    | none => none
    | some (k, m1) => if wk ms c.mx && decide (ms[i]? = some .own) && decide (m1 = ms) then some (some ms) else none
  ok p c ms k hm Z H σ env OW En E hP := by
    split at hm
    · cases hm
    next k1 m1 h1 =>
    split at hm
    case isFalse => cases hm
    next hc =>
    cases hm
    rw [Bool.and_eq_true, Bool.and_eq_true] at hc
    obtain ⟨⟨hx, ho⟩, he⟩ := hc
    have ho := of_decide_eq_true ho
    have he := of_decide_eq_true he
    subst he
    obtain ⟨w0, d0, f0, w1, w2, w3, _, _, w4⟩ := E.sl.at i _ ho (by intro z; cases z)
    have eg : eget env i = some (.ok d0) := by unfold eget; rw [w2]
    rw [eg] at hP
    refine ⟨w0, w1, ?_⟩
    refine XE.stm (T := fun y H1 => o.r w0 y H1 fun z H2 => En.nx (σ.set i (some z)) H2) e h1 hx E hP fun d v H1 f1 Z1 OW1 _ e1 s1 E1 r1 K1 hP1 => ?_
    cases q : iopF o.g d0 d with
    | none => rw [q] at hP1; exact hP1.elim
    | some r =>
      obtain ⟨x, y, z, rfl, rfl, hg, rfl⟩ := iopF_of q
      rw [q] at hP1
      obtain ⟨rfl, rfl⟩ := w3.int_of
      obtain ⟨rfl, rfl⟩ := r1.int_of
      obtain ⟨vz, hvz, hr⟩ := o.ok x y z hg
      refine hr H1 _ ?_
      have lt : i < m1.length := by
        rcases Nat.lt_or_ge i m1.length with h | h
        · exact h
        · rw [List.getElem?_eq_none h] at ho; cases ho
      obtain ⟨OW2, E2, sO⟩ := E1.put (k := .own) (m := .own) lt (RpL.at hvz) (KdN.nil _) rfl
      rw [set_self_of ho] at E2
      refine hP1 m1 rfl _ H1 Z1 OW2 (Same.fr e1) ⟨fun a ha => ?_, s1.n1, s1.s1, s1.n2, s1.s2, s1.gro⟩ E2
      rcases sO a ha with z | ⟨_, z⟩
      · exact s1.ow a z
      · cases z
end DL
set_option maxRecDepth 100000
namespace DL
open PySem PySem.Spec PyProof.Rows L2
/-! ### rules in the forms of the expressions -/
section
variable {X : Cx} {a b e : Expr} {es : List Expr} {ta tb te : TE} {t : TA} {pos p : Pos}
theorem pt_v {op : CmpOp} {r : R2} (ho : OpR X (compareOp op) r) (ha : PE X a ta) (hb : PE X b tb) (hm : behindInMarks op b = false) : PT X (.Compare a [op] [b] pos) (tB (tOp r ta tb)) := pt_cmpR ho ha hb hm
theorem hu65 {k : Nat} {A : Around} (hr : Room k A) : A.units + 65 < cLine := by have := hr.un; omega
end
/-! ### the same rules, the fragment named: they hold in a block within a block as well -/
section
variable {X : Cx} {a b e : Expr} {es : List Expr} {ta tb te : TE} {t : TA} {pos p : Pos}
theorem op_eqK (K : PySem.W.Frag) (hu : X.A.units + 64 < cLine) (h : X.K = K := by rfl) : OpR X (compareOp .Eq) (rEqD K) := h ▸ op_eqD hu
theorem op_neK (K : PySem.W.Frag) (hu : X.A.units + 64 < cLine) (h : X.K = K := by rfl) : OpR X (compareOp .NotEq) (rNeD K) := h ▸ op_neD hu
theorem op_inK (K : PySem.W.Frag) (hu : X.A.units + 65 < cLine) (h : X.K = K := by rfl) : OpR X (compareOp .In) (rInA K false) := h ▸ op_inA hu
theorem op_notInK (K : PySem.W.Frag) (hu : X.A.units + 65 < cLine) (h : X.K = K := by rfl) : OpR X (compareOp .NotIn) (rInA K true) := h ▸ op_notInA hu
theorem ix_seqK (K : PySem.W.Frag) (h : X.K = K := by rfl) : IxR X (rIx K) := h ▸ ix_seq
theorem sl_anyK (K : PySem.W.Frag) (h : X.K = K := by rfl) : SlR X (rSlAny K) := h ▸ sl_any
theorem op_addK (K : PySem.W.Frag) (h : X.K = K := by rfl) : OpR X (binaryOp .Add) (rAddA K) := h ▸ op_addA
theorem call_lenK (K : PySem.W.Frag) (h : X.K = K := by rfl) : CallR X (.builtin "len") (rLen K) := h ▸ call_len
theorem call_list_ofK (K : PySem.W.Frag) (h : X.K = K := by rfl) : CallR X (.type "list") (rListOf K) := h ▸ call_list_of
theorem call_tuple_ofK (K : PySem.W.Frag) (h : X.K = K := by rfl) : CallR X (.type "tuple") (rTupOf K) := h ▸ call_tuple_of
theorem call_isiK (K : PySem.W.Frag) (h : X.K = K := by rfl) : CallR X (.builtin "isinstance") (rIsi K) := h ▸ call_isi
theorem cr_sumK (K : PySem.W.Frag) (hc : X.calm = true) (h : X.K = K := by rfl) : CallR X (.builtin "sum") (rSum K) := h ▸ cr_sum hc
theorem cr_allK (K : PySem.W.Frag) (hc : X.calm = true) (h : X.K = K := by rfl) : CallR X (.builtin "all") (rAll K) := h ▸ cr_all hc
theorem cr_anyK (K : PySem.W.Frag) (hc : X.calm = true) (h : X.K = K := by rfl) : CallR X (.builtin "any") (rAny K) := h ▸ cr_any hc
theorem pi_seqK (K : PySem.W.Frag) {tg l : Expr} {tl : TE} (hl : PE X l tl) (h : X.K = K := by rfl) : PI X tg l (iSeq K tl) := h ▸ pi_seq hl
theorem pi_enumK (K : PySem.W.Frag) {kk : Nat} {tpos : Pos} {elts : List Expr} (hg : Gl X "enumerate") (hm : X.mg "enumerate" = none) {ta' : TA} (ha : PA X [e] ta') (h : X.K = K := by rfl) (hs : starEach [e] X.env = [(false, eval e X.env)] := by rfl) :
    PI X (.Tuple elts kk tpos) (.Call (.Name "enumerate" p) [e] [] pos) (iEnum K ta') := h ▸ pi_enum hg hm ha hs
theorem pi_zipK (K : PySem.W.Frag) {e2 : Expr} {kk : Nat} {tpos : Pos} {elts : List Expr} {ta' : TA} (hg : Gl X "zip") (hm : X.mg "zip" = none) (ha : PA X [e, e2] ta') (h : X.K = K := by rfl)
    (hs : starEach [e, e2] X.env = (false, eval e X.env) :: starEach [e2] X.env := by rfl) (hpl : (backTo pos (starEach [e2] X.env)).any (·.1) = false := by rfl) :
    PI X (.Tuple elts kk tpos) (.Call (.Name "zip" p) [e, e2] [] pos) (iZip K ta') := h ▸ pi_zip hg hm ha hs hpl
theorem pg_tupK (K : PySem.W.Frag) {es : List Expr} {k : Nat} {t : TGs} {n : Nat} (hc : X.calm = true) (hp : PGs X es t) (h : X.K = K := by rfl)
    (hn : (assignEach es X.env).length = n := by rfl) (hst : (assignEach es X.env).findIdx? (·.1) = none := by rfl) : PG X (.Tuple es k pos) (gTup K n t) := h ▸ pg_tup hc hp hn hst
end
theorem law_end {cm : CM} {f : PF} {n : Nat} {H : Hp} {a : Addr} {ns : List Int} (hl : ns.length ≤ n) (hO : Only H) (hS : SqL cm.K H a (ns.map V.int)) (hpk : f.pk = [false]) (h : f.F [.scr (ns.map .int)] = some (.ok (.bl true))) :
    spP cm f [.ref a] H (fun v _ => v = .bl true) fun _ _ _ => False := by
  have sf : SqF cm.K H a (ns.map V.int) := by
    rcases hS with (h | ⟨o, h⟩) | h
    · rcases hO a with q | ⟨o, xs, q⟩
      · rw [q] at h; cases h
      · rw [q] at h; cases h
    · exact .inl ⟨o, h⟩
    · exact .inr h
  have its : ∀ ns : List Int, RpL cm H (ns.map V.int) (ns.map D.int) [] := by
    intro ns
    induction ns with
    | nil => exact .nil
    | cons x xs ih => exact .atom rfl ih
  refine ⟨[.scr (ns.map .int)], [[]], .cons (RpL.scr sf (its ns) .nil) .nil, by rw [hpk]; rfl, ?_⟩
  rw [h]
  intro v H' g _ r _
  exact r.bl_of.1
end DL
set_option maxRecDepth 100000
namespace DL
open PySem PySem.Spec PyProof.Rows L2
/-! ### dicts: what stands by a key -/
def keyD : D → Option Key
  | .int i => some (.inl i)
  | .str s => some (.inr s)
  | _ => none
def kD : Key → D
  | .inl i => .int i
  | .inr s => .str s
def valD (kvs : List (Key × D)) (k : Key) : Option D := (kvs.find? fun kv => decide (kv.1 = k)).map (·.2)
theorem keyD_of {cm : CM} {H v d f k} (r : RpL cm H [v] [d] f) (e : keyD d = some k) : v = kV k ∧ f = [] := by
  cases d with
  | int i => cases e; exact r.int_of
  | str s => cases e; exact r.str_of
  | _ => cases e
theorem valD_rp {cm : CM} {H : Hp} {k : Key} : ∀ {kvs : List (Key × D)} {ks : List (Key × V)} {g : List Addr}, ks.map (·.1) = kvs.map (·.1) → RpL cm H (ks.map (·.2)) (kvs.map (·.2)) g →
    (valD kvs k = none → valV ks k = none) ∧ ∀ d, valD kvs k = some d → ∃ v g', valV ks k = some v ∧ RpL cm H [v] [d] g' ∧ (∀ a ∈ g', a ∈ g) ∧ (g.Nodup → g'.Nodup)
  | [], ks, g, e, r => by
    cases ks with
    | nil => exact ⟨fun _ => rfl, fun d z => by cases z⟩
    | cons _ _ => simp at e
  | (k0, d0) :: kvs, ks, g, e, r => by
    cases ks with
    | nil => simp at e
    | cons q ks =>
      obtain ⟨k1, v1⟩ := q
      rw [List.map_cons, List.map_cons] at e
      injection e with e1 e2
      have e1 : k1 = k0 := e1
      subst e1
      obtain ⟨f1, f2, rfl, r1, r2⟩ := RpL.split (vs := ks.map (·.2)) (ds := kvs.map (·.2)) r
      obtain ⟨ih1, ih2⟩ := valD_rp (k := k) e2 r2
      by_cases hk : k1 = k
      · subst hk
        refine ⟨fun z => ?_, fun d z => ?_⟩
        · unfold valD at z
          rw [List.find?_cons_of_pos (by simp)] at z
          cases z
        · unfold valD at z
          rw [List.find?_cons_of_pos (by simp)] at z
          cases z
          exact ⟨v1, f1, valV_pos rfl, r1, fun a ha => List.mem_append_left _ ha, fun n => (List.nodup_append.mp n).1⟩
      · have z0 : valD ((k1, d0) :: kvs) k = valD kvs k := by
          unfold valD
          rw [List.find?_cons_of_neg (by simpa using hk)]
        refine ⟨fun z => ?_, fun d z => ?_⟩
        · rw [z0] at z
          rw [valV_neg hk]; exact ih1 z
        · rw [z0] at z
          obtain ⟨v, g', a, b, c, d'⟩ := ih2 d z
          exact ⟨v, g', by rw [valV_neg hk]; exact a, b, fun a ha => List.mem_append_right _ (c a ha), fun n => d' (List.nodup_append.mp n).2.1⟩
/-- d.get(k, x), of values that don't change -/
def dgetF (kvs : List (Key × D)) (y z : D) : Option (R D) := match keyD y with
  | some k => if immD ((valD kvs k).getD z) then some (.ok ((valD kvs k).getD z)) else none
  | none => none
def bDct (r : Option (R D)) (g : List (Key × D) → Option (R D)) : Option (R D) := b1 r fun d => match d with
  | .dct kvs => g kvs
  | _ => none
theorem dgetF_ok {p : Pm} {ms' : List M} {Z Z2 : Zn} {H H2 : Hp} {σ : L2.St} {env : EnvD} {OW OW2 : List Addr} {Q : VK} {kvs : List (Key × D)} {ks : List (Key × V)} {g : List Addr} {a : Addr} {y z : D} {vy vz : V} {f2 f3 : List Addr}
    (hP : PoE p .own ms' Z H σ env OW (dgetF kvs y z) Q) (rd : Rd H2 a (.dK ks)) (e : ks.map (·.1) = kvs.map (·.1)) (rr : RpL p.cm H2 (ks.map (·.2)) (kvs.map (·.2)) g) (ry : RpL p.cm H2 [vy] [y] f2) (rz : RpL p.cm H2 [vz] [z] f3)
    (e2 : Same H H2) (s2 : Stp Z OW H Z2 OW2 H2) (E2 : ER p.cm ms' Z2 H2 σ env OW2) : ∃ o, DGet H2 a vy o ∧ Q (o.getD vz) H2 := by
  unfold dgetF at hP
  cases q : keyD y with
  | none => rw [q] at hP; exact hP.elim
  | some key =>
    rw [q] at hP
    obtain ⟨rfl, _⟩ := keyD_of ry q
    have hP : PoE p .own ms' Z H σ env OW (if immD ((valD kvs key).getD z) then some (.ok ((valD kvs key).getD z)) else none) Q := hP
    split at hP
    case isFalse => exact hP.elim
    next hi =>
    obtain ⟨h1, h2⟩ := valD_rp (k := key) e rr
    refine ⟨valV ks key, .inl ⟨ks, key, rd, rfl, rfl⟩, ?_⟩
    cases qv : valD kvs key with
    | none =>
      rw [h1 qv]
      rw [qv] at hP hi
      have : f3 = [] := rz.imm1 hi
      subst this
      exact hP vz H2 [] Z2 OW2 e2 s2 E2 rz (KdOk.nil _)
    | some d =>
      obtain ⟨v, g', ev, rv, _⟩ := h2 d qv
      rw [ev]
      rw [qv] at hP hi
      have : g' = [] := rv.imm1 hi
      subst this
      exact hP v H2 [] Z2 OW2 e2 s2 E2 rv (KdOk.nil _)
/-- a dict's parts -/
theorem RpL.dct_later {cm : CM} {H v kvs f} (h : RpL cm H [v] [.dct kvs] f) : ∃ a ks g, v = .ref a ∧ Rd H a (.dK ks) ∧ ks.map (·.1) = kvs.map (·.1) ∧ RpL cm H (ks.map (·.2)) (kvs.map (·.2)) g := by
  obtain ⟨a, ks, g, h1, h2, h3, h4, _⟩ := h.dct_of
  exact ⟨a, ks, g, h1, h2, h3, h4⟩
def XE.dget2 (a b c : XE) : XE where
  t p := tDGet2 (a.t p) (b.t p) (c.t p)
  f env := bDct (a.f env) fun kvs => b2 (b.f env) (c.f env) (dgetF kvs)
  mo ms := match a.mo ms with
    | none => none
    | some (_, m1) => match b.mo m1 with
      | none => none
      | some (_, m2) => match c.mo m2 with
        | none => none
        | some (_, m3) => some (.own, m3)
  ok p ms k ms' hm Z H σ env OW Q E hP := by
    split at hm
    · cases hm
    next k1 m1 h1 =>
    split at hm
    · cases hm
    next k2 m2 h2 =>
    split at hm
    · cases hm
    next k3 m3 h3 =>
    cases hm
    refine XE.one (g := fun d => match d with | .dct kvs => b2 (b.f env) (c.f env) (dgetF kvs) | _ => none) a h1 E hP fun d v H1 f1 Z1 OW1 _ e1 s1 E1 r1 _ hP1 => ?_
    cases d with
    | dct kvs =>
      obtain ⟨aa, ks, g, rfl, rd, ee, rr⟩ := r1.dct_later
      refine ⟨aa, rfl, .inl ⟨ks, rd⟩, ?_⟩
      have hP2 := PoE.after hP1 e1 s1
      refine XE.two b c h2 h3 E1 hP2 fun d1 d2 v1 v2 H2 f1 f2 Z2 OW2 _ _ e2 s2 E2 ry rz _ _ _ hP3 => ?_
      exact dgetF_ok hP3 (Same.rd e2 rd) ee (rr.same e2) ry rz e2 s2 E2
    | _ => exact hP1.elim
def XE.dget1 (a b : XE) : XE where
  t p := tDGet1 (a.t p) (b.t p)
  f env := bDct (a.f env) fun kvs => b1 (b.f env) fun y => dgetF kvs y .non
  mo ms := match moTwo a b ms with
    | none => none
    | some (_, _, m2) => some (.own, m2)
  ok p ms k ms' hm Z H σ env OW Q E hP := by
    split at hm
    · cases hm
    next k1 k2 m2 e =>
    cases hm
    obtain ⟨m1, h1, h2⟩ := moTwo_of e
    refine XE.one (g := fun d => match d with | .dct kvs => b1 (b.f env) fun y => dgetF kvs y .non | _ => none) a h1 E hP fun d v H1 f1 Z1 OW1 _ e1 s1 E1 r1 _ hP1 => ?_
    cases d with
    | dct kvs =>
      obtain ⟨aa, ks, g, rfl, rd, ee, rr⟩ := r1.dct_later
      refine ⟨aa, rfl, .inl ⟨ks, rd⟩, ?_⟩
      have hP2 := PoE.after hP1 e1 s1
      refine XE.one b h2 E1 hP2 fun d1 v1 H2 f1 Z2 OW2 _ e2 s2 E2 ry _ hP3 => ?_
      exact dgetF_ok hP3 (Same.rd e2 rd) ee (rr.same e2) ry (RpL.at (d := .non) rfl) e2 s2 E2
    | _ => exact hP1.elim
/-- d[k], the key there -/
def dixF (x y : D) : Option (R D) := match x with
  | .dct kvs => (keyD y).bind fun k => (valD kvs k).map .ok
  | _ => none
def XE.dix (a b : XE) : XE where
  t p := tDGet (a.t p) (b.t p)
  f env := b2 (a.f env) (b.f env) dixF
  mo ms := match moTwo a b ms with
    | some (k1, _, m2) => some (k1, m2)
    | none => none
  ok p ms k ms' hm Z H σ env OW Q E hP := by
    split at hm
    · next k1 k2 m2 e =>
      cases hm
      obtain ⟨m1, h1, h2⟩ := moTwo_of e
      refine XE.two a b h1 h2 E hP fun d1 d2 v1 v2 H2 f1 f2 Z2 OW2 _ _ e2 s2 E2 r1 r2 K1 _ _ hP2 => ?_
      cases d1 with
      | dct kvs =>
        have hP2 : PoE p k ms' Z H σ env OW ((keyD d2).bind fun k => (valD kvs k).map .ok) Q := hP2
        obtain ⟨aa, ks, g, rfl, rd, ee, rr, rfl⟩ := r1.dct_of
        cases q : keyD d2 with
        | none => rw [q] at hP2; exact hP2.elim
        | some key =>
          rw [q] at hP2
          obtain ⟨rfl, _⟩ := keyD_of r2 q
          have hP2 : PoE p k ms' Z H σ env OW ((valD kvs key).map .ok) Q := hP2
          cases qv : valD kvs key with
          | none => rw [qv] at hP2; exact hP2.elim
          | some d =>
            rw [qv] at hP2
            obtain ⟨v, g', ev, rv, sub, nd⟩ := (valD_rp (k := key) ee rr).2 d qv
            exact ⟨aa, v, rfl, .inl ⟨ks, key, rd, rfl, ev.symm⟩, hP2 v H2 g' Z2 OW2 e2 s2 E2 rv (K1.part (fun x hx => List.mem_cons_of_mem _ (sub x hx)) fun n => nd (List.nodup_cons.mp n).2)⟩
      | _ => exact hP2.elim
    · cases hm
/-- k in d -/
def dinF (neg : Bool) (y x : D) : Option (R D) := match x with
  | .dct kvs => (keyD y).map fun k => .ok (.bl (if neg then !(valD kvs k).isSome else (valD kvs k).isSome))
  | _ => none
def XE.din (neg : Bool) (b a : XE) : XE where
  t p := (if neg then tDNotIn else tDIn) (b.t p) (a.t p)
  f env := b2 (b.f env) (a.f env) (dinF neg)
  mo ms := match moTwo b a ms with
    | some (_, _, m2) => some (.own, m2)
    | none => none
  ok p ms k ms' hm Z H σ env OW Q E hP := by
    split at hm
    · next k1 k2 m2 e =>
      cases hm
      obtain ⟨m1, h1, h2⟩ := moTwo_of e
      have main : b.t p σ H fun y H1 => a.t p σ H1 fun x H2 => ∃ aa o, x = .ref aa ∧ DGet H2 aa y o ∧ Q (.bl (if neg then !o.isSome else o.isSome)) H2 := by
        refine XE.two b a h1 h2 E hP fun d2 d1 v2 v1 H2 f2 f1 Z2 OW2 _ _ e2 s2 E2 r2 r1 _ _ _ hP2 => ?_
        cases d1 with
        | dct kvs =>
          have hP2 : PoE p .own ms' Z H σ env OW ((keyD d2).map fun k => .ok (.bl (if neg then !(valD kvs k).isSome else (valD kvs k).isSome))) Q := hP2
          obtain ⟨aa, ks, g, rfl, rd, ee, rr, rfl⟩ := r1.dct_of
          cases q : keyD d2 with
          | none => rw [q] at hP2; exact hP2.elim
          | some key =>
            rw [q] at hP2
            obtain ⟨rfl, _⟩ := keyD_of r2 q
            obtain ⟨z1, z2⟩ := valD_rp (k := key) ee rr
            have es : (valV ks key).isSome = (valD kvs key).isSome := by
              cases qv : valD kvs key with
              | none => rw [z1 qv]; rfl
              | some d => obtain ⟨v, g', ev, _⟩ := z2 d qv; rw [ev]; rfl
            refine ⟨aa, valV ks key, rfl, .inl ⟨ks, key, rd, rfl, rfl⟩, ?_⟩
            rw [es]
            exact hP2 _ H2 [] Z2 OW2 e2 s2 E2 (RpL.at rfl) (KdOk.nil _)
        | _ => exact hP2.elim
      cases neg with
      | true => exact main
      | false => exact main
    · cases hm
/-- {} -/
def XE.dnw : XE where
  t _ := tDNewK
  f _ := some (.ok (.dct []))
  mo ms := some (.own, ms)
  ok p ms k ms' hm Z H σ env OW Q E hP := by
    cases hm
    intro a ha
    have e2 := same_upd (o := .dK []) ha
    obtain ⟨Z2, s2, E2, K2⟩ := KdOk.new (KdOk.nil .own) Stp.refl E (fun a ha => by cases ha) ha (o := .dK []) trivial
    exact hP _ _ [a] Z2 OW e2 s2 E2 (RpL.dct1 (ks := []) (kvs := []) (.inl upd_same) rfl .nil) K2
end DL
set_option maxRecDepth 100000
namespace DL
open PySem PySem.Spec PyProof.Rows L2
/-! ### len of a dict; copies -/
def rLenD : List V → Hp → VK → Prop := fun xs H Q => ∃ a kvs, xs = [V.ref a] ∧ Rd H a (.dK kvs) ∧ Q (.int kvs.length) H
theorem call_lenRd {X : Cx} : CallR X (.builtin "len") rLenD := by
  intro pins s σ H xs us Q I r h
  obtain ⟨a, kvs, rfl, ha, q⟩ := h
  obtain ⟨u, rfl, ru⟩ := vals1 r
  cases ru
  exact d_len I ha fun t s' I' => ⟨.int kvs.length, H, I', ⟨t, rfl⟩, q⟩
def lenDF : List D → Option D
  | [.dct kvs] => some (.int kvs.length)
  | _ => none
theorem keys_len {α β : Type} {ks : List (Key × α)} {kvs : List (Key × β)} (e : ks.map (·.1) = kvs.map (·.1)) : ks.length = kvs.length := by
  have := congrArg List.length e
  simpa using this
def BI.lenD : BI where
  r _ := rLenD
  g := lenDF
  ok p ds d h := by
    unfold lenDF at h
    split at h
    · cases h
      refine ⟨_, rfl, fun H vs f Q r q => ?_⟩
      obtain ⟨v, rfl⟩ := r.one_of
      obtain ⟨a, ks, g, rfl, rd, ee, rr⟩ := r.dct_later
      exact ⟨a, ks, rfl, rd, by rw [keys_len ee]; exact q⟩
    · cases h
def rDictD : List V → Hp → VK → Prop := fun xs H Q => ∃ (a : Addr) (kvs : List (Key × V)), xs = [.ref a] ∧ Rd H a (.dK kvs) ∧ ∀ p, H p = none → Q (.ref p) (upd H p (.dK kvs))
theorem call_dictC {X : Cx} : CallR X (.type "dict") rDictD := call_dictD
def dictF : List D → Option (R D)
  | [.dct kvs] => if immL (kvs.map (·.2)) then some (.ok (.dct kvs)) else none
  | _ => none
/-- dict(d), of values that don't change -/
def XE.dictOf (as : XA) : XE where
  t p := tCB rDictD (as.t p)
  f env := bL (as.f env) dictF
  mo ms := match as.mo ms with
    | some (_, m1) => some (.own, m1)
    | none => none
  ok p ms k ms' hm Z H σ env OW Q E hP := by
    split at hm
    case h_2 => cases hm
    next k1 m1 e =>
    cases hm
    refine as.ok p ms k1 ms' e Z H σ env OW _ E ?_
    cases q : as.f env with
    | none => rw [q] at hP; exact hP
    | some r =>
      rw [q] at hP
      cases r with
      | ex c pl => exact hP
      | ok ds =>
        intro vs H1 f Z1 OW1 e1 s1 E1 r1 K1
        have hP : PoE p .own ms' Z H σ env OW (dictF ds) Q := hP
        unfold dictF at hP
        split at hP
        · split at hP
          · next hi =>
            obtain ⟨v, rfl⟩ := r1.one_of
            obtain ⟨a, ks, g, rfl, rd, ee, rr⟩ := r1.dct_later
            have : g = [] := rr.imm hi
            subst this
            refine ⟨a, ks, rfl, rd, fun q hq => ?_⟩
            have e2 := same_upd (o := .dK ks) hq
            obtain ⟨Z2, s2, E2, K2⟩ := KdOk.new (KdOk.nil .own) s1 E1 (fun a ha => by cases ha) hq (o := .dK ks) trivial
            exact hP _ _ [q] Z2 OW1 (e1.trans e2) s2 E2 (RpL.dct1 (.inl upd_same) ee (rr.same e2)) K2
          · exact hP.elim
        · exact hP.elim
/-! ### d[k] = v -/
def putDF (kvs : List (Key × D)) (k : Key) (x : D) : Option (List (Key × D)) :=
  if kvs.length < sizeLine then match valD kvs k with
    | none => some (kvs ++ [(k, x)])
    | some _ => if immL (kvs.map (·.2)) && immD x then some (kvs.map fun kv => if kv.1 = k then (kv.1, x) else kv) else none
  else none
theorem putMap_rp {cm : CM} {H : Hp} {k : Key} {v : V} {x : D} (rx : RpL cm H [v] [x] []) : ∀ {kvs : List (Key × D)} {ks : List (Key × V)}, ks.map (·.1) = kvs.map (·.1) → RpL cm H (ks.map (·.2)) (kvs.map (·.2)) [] →
    (ks.map fun kv => if kv.1 = k then (kv.1, v) else kv).map (·.1) = (kvs.map fun kv => if kv.1 = k then (kv.1, x) else kv).map (·.1) ∧ RpL cm H ((ks.map fun kv => if kv.1 = k then (kv.1, v) else kv).map (·.2)) ((kvs.map fun kv => if kv.1 = k then (kv.1, x) else kv).map (·.2)) []
  | [], ks, e, r => by
    cases ks with
    | nil => exact ⟨rfl, .nil⟩
    | cons _ _ => simp at e
  | (k0, d0) :: kvs, ks, e, r => by
    cases ks with
    | nil => simp at e
    | cons q ks =>
      obtain ⟨k1, v1⟩ := q
      rw [List.map_cons, List.map_cons] at e
      injection e with e1 e2
      have e1 : k1 = k0 := e1
      subst e1
      obtain ⟨f1, f2, ef, r1, r2⟩ := RpL.split (vs := ks.map (·.2)) (ds := kvs.map (·.2)) r
      have z1 : f1 = [] := List.append_eq_nil_iff.mp ef.symm |>.1
      have z2 : f2 = [] := List.append_eq_nil_iff.mp ef.symm |>.2
      subst z1 z2
      obtain ⟨a, b⟩ := putMap_rp rx e2 r2
      by_cases hk : k1 = k
      · refine ⟨?_, ?_⟩
        · simp only [List.map_cons, if_pos hk]; rw [a]
        · simp only [List.map_cons, if_pos hk]
          exact rx.cons1 b
      · refine ⟨?_, ?_⟩
        · simp only [List.map_cons, if_neg hk]; rw [a]
        · simp only [List.map_cons, if_neg hk]
          exact r1.cons1 b
theorem putD_rp {cm : CM} {H : Hp} {k : Key} {v : V} {x : D} {f2 g : List Addr} (rx : RpL cm H [v] [x] f2) {kvs kvs' : List (Key × D)} {ks : List (Key × V)} (ee : ks.map (·.1) = kvs.map (·.1)) (r : RpL cm H (ks.map (·.2)) (kvs.map (·.2)) g) (hp : putDF kvs k x = some kvs') :
    ks.length < sizeLine ∧ (putK ks k v).map (·.1) = kvs'.map (·.1) ∧ ((RpL cm H ((putK ks k v).map (·.2)) (kvs'.map (·.2)) (g ++ f2)) ∨ RpL cm H ((putK ks k v).map (·.2)) (kvs'.map (·.2)) []) := by
  unfold putDF at hp
  split at hp
  case isFalse => cases hp
  next hl =>
  refine ⟨by rw [keys_len ee]; exact hl, ?_⟩
  obtain ⟨h1, h2⟩ := valD_rp (k := k) ee r
  cases q : valD kvs k with
  | none =>
    rw [q] at hp
    cases hp
    rw [putK_new v (h1 q)]
    refine ⟨by simp [ee], .inl ?_⟩
    rw [List.map_append, List.map_append]
    exact r.append rx
  | some d =>
    rw [q] at hp
    have hp : (if immL (kvs.map (·.2)) && immD x then some (kvs.map fun kv => if kv.1 = k then (kv.1, x) else kv) else none) = some kvs' := hp
    split at hp
    case isFalse => cases hp
    next hi =>
    cases hp
    rw [Bool.and_eq_true] at hi
    have : g = [] := r.imm hi.1
    subst this
    have : f2 = [] := rx.imm1 hi.2
    subst this
    obtain ⟨v', g', ev, _⟩ := h2 d q
    have hany : (ks.any fun kv => decide (kv.1 = k)) = true := by rw [valV_any, ev]; rfl
    unfold putK
    rw [if_pos hany]
    obtain ⟨a, b⟩ := putMap_rp (k := k) rx ee r
    exact ⟨a, .inr b⟩
def putF (x k : D) : D → Option D := fun d => match d with
  | .dct kvs => (keyD k).bind fun k => (putDF kvs k x).map .dct
  | _ => none
/-- the dict behind a store -/
theorem dput_end {p : Pm} {c : Cm} {m2 : List M} {Z Z3 : Zn} {H H3 : Hp} {σ : L2.St} {env : EnvD} {OW OW3 : List Addr} {En : Ends} {i : Nat} {path : List Nat} {v0 : V} {bb : Addr} {d kd : D} {v kv : V} {f1 f3 : List Addr}
    (hP0 : PoS p c (some m2) Z H OW (chg env i path (putF d kd)) En) (e3 : Same H H3) (s3 : Stp Z OW H Z3 OW3 H3) (E3 : ER p.cm m2 Z3 H3 σ env OW3) (ho : m2[i]? = some .own) (hv : σ[i]? = some (some v0)) (fo3 : FocV H3 v0 path (.ref bb))
    (r1 : RpL p.cm H3 [v] [d] f1) (K1 : KdOk .own OW H Z3 OW3 H3 f1) (r3 : RpL p.cm H3 [kv] [kd] f3) : ∃ H4, DPut H3 bb kv v H4 ∧ En.nx σ H4 := by
  obtain ⟨d', d'', gg, qd, rgg, sg, ng, put⟩ := chg_ok hP0 e3 s3 E3 ho hv fo3
  cases d' with
  | dct kvs =>
    have qd : ((keyD kd).bind fun k => (putDF kvs k d).map D.dct) = some d'' := qd
    obtain ⟨key, qk, qd⟩ := Option.bind_eq_some_iff.mp qd
    obtain ⟨kvs', qp, rfl⟩ := Option.map_eq_some_iff.mp qd
    obtain ⟨rfl, _⟩ := keyD_of r3 qk
    obtain ⟨b', ks, g2, he, rd, ee, rr, rfl⟩ := rgg.dct_of
    cases he
    have ex : H3 bb = some (.dK ks) := rd_wr rd (E3.wr bb (sg bb List.mem_cons_self))
    obtain ⟨hl, ek, rp⟩ := putD_rp (v := v) r1 ee rr qp
    refine ⟨_, .inl ⟨ks, key, ex, rfl, hl, rfl⟩, ?_⟩
    have nb := List.nodup_cons.mp ng
    have bn : bb ∉ f1 := fun z => (K1.2 bb z).1 (sg bb List.mem_cons_self)
    have fr : Fr [bb] H3 (upd H3 bb (.dK (putK ks key v))) := fun x u q hb => by
      rw [upd_ne (fun z => hb (by rw [z]; exact List.mem_cons_self))]; exact q
    have wb : ∀ x ∈ [bb], WrA H3 x := fun x hx => by
      have : x = bb := by simpa using hx
      subst this; exact ⟨_, ex, trivial⟩
    rcases rp with rp | rp
    · have bf : bb ∉ g2 ++ f1 := fun z => (List.mem_append.mp z).elim nb.1 bn
      have nf : (g2 ++ f1).Nodup := List.nodup_append.mpr ⟨nb.2, K1.1, fun x hx y hy z => by
        subst z
        exact (K1.2 x hy).1 (sg x (List.mem_cons_of_mem _ hx))⟩
      have ra' := rp.aside (g := [bb]) fr (fun x hx z => by
        have : x = bb := by simpa using z
        subst this; exact bf hx) wb
      refine put _ (bb :: (g2 ++ f1)) f1 List.mem_cons_self trivial (RpL.dct1 (.inl upd_same) ek ra') (List.nodup_cons.mpr ⟨bf, nf⟩) (fun x hx => ?_) fun x hx => ⟨⟨(K1.2 x hx).1, (K1.2 x hx).2.1, (K1.2 x hx).2.2.2⟩, (K1.2 x hx).2.2.1⟩
      rcases List.mem_cons.mp hx with rfl | hx
      · exact .inl List.mem_cons_self
      · exact (List.mem_append.mp hx).imp (List.mem_cons_of_mem _) id
    · have ra' := rp.aside (g := [bb]) fr (fun x hx z => by cases hx) wb
      refine put _ [bb] [] List.mem_cons_self trivial (RpL.dct1 (.inl upd_same) ek ra') (by simp) (fun x hx => .inl ?_) fun x hx => by cases hx
      have : x = bb := by simpa using hx
      subst this; exact List.mem_cons_self
  | _ => cases qd
/-- what a store asks of the object -/
theorem chg_at {p : Pm} {c : Cm} {k : Option (List M)} {Z : Zn} {H : Hp} {OW : List Addr} {En : Ends} {env : EnvD} {i : Nat} {path : List Nat} {g : D → Option D} (hP3 : PoS p c k Z H OW (chg env i path g) En) : ∃ dd, atP env i path = some dd ∧ ∃ d'', g dd = some d'' := by
  unfold chg at hP3
  unfold atP
  cases qe : eget env i with
  | none => rw [qe] at hP3; exact hP3.elim
  | some r =>
    rw [qe] at hP3
    cases r with
    | ex _ _ => exact hP3.elim
    | ok d0 =>
      cases qg : getP d0 path with
      | none => simp only [qg] at hP3; exact hP3.elim
      | some dd =>
        simp only [qg] at hP3
        cases qs : g dd with
        | none => simp only [Option.bind_some, qs] at hP3; exact hP3.elim
        | some d'' => exact ⟨dd, qg, d'', qs⟩
def XS.dput (e : XE) (a : XP) (b : XE) : XS where
  t p := sDPut (a.t p) (b.t p) (e.t p)
  f env := bS (e.f env) env fun x => bPS (a.f env) env fun path => bS (b.f env) env fun k => chg env a.i path (putF x k)
  mo c ms := match e.mo ms with
    | some (.own, m1) => match a.mo m1 with
      | none => none
      | some m2 => match b.mo m2 with
        | none => none
        | some (_, m3) => if wk ms c.mx && wk m1 c.mx && wk m2 c.mx && decide (m3[a.i]? = some .own) then some (some m3) else none
    | _ => none
  ok p c ms k hm Z H σ env OW En E hP := by
    split at hm
    case h_2 => cases hm
    next m1 h1 =>
    split at hm
    · cases hm
    next m2 h2 =>
    split at hm
    · cases hm
    next k3 m3 h3 =>
    split at hm
    case isFalse => cases hm
    next hc =>
    cases hm
    rw [Bool.and_eq_true, Bool.and_eq_true, Bool.and_eq_true] at hc
    obtain ⟨⟨⟨hx, hx1⟩, hx2⟩, ho⟩ := hc
    have ho := of_decide_eq_true ho
    refine XE.stm e h1 hx E hP fun d v H1 f1 Z1 OW1 q1 e1 s1 E1 r1 K1 hP1 => ?_
    have hP1 := PoS.after hP1 (Same.fr e1) s1
    refine XP.stm (T := fun o H2 => b.t p σ H2 fun i H3 => ∃ aa H4, o = .ref aa ∧ DPut H3 aa i v H4 ∧ En.nx σ H4) a h2 hx1 E1 hP1 fun path v0 v' H2 Z2 OW2 q2 e2 s2 E2 hv fo hP2 => ?_
    have hP2 := PoS.after hP2 (Same.fr e2) s2
    refine XE.stm (T := fun i H3 => ∃ aa H4, v' = .ref aa ∧ DPut H3 aa i v H4 ∧ En.nx σ H4) b h3 hx2 E2 hP2 fun kd kv H3 f3 Z3 OW3 q3 e3 s3 E3 r3 K3 hP3 => ?_
    have s23 := s2.trans s3
    have K1' := K1.later r1.trk s23 (e2.trans e3)
    have r1' := (r1.same e2).same e3
    have fo3 := fo.same e3
    have hP0 : PoS p c (some m3) Z H OW (chg env a.i path (putF d kd)) En := by
      have h := hP
      rw [q1] at h
      have h : PoS p c (some m3) Z H OW (bPS (a.f env) env fun path => bS (b.f env) env fun k => chg env a.i path (putF d k)) En := h
      rw [q2] at h
      have h : PoS p c (some m3) Z H OW (bS (b.f env) env fun k => chg env a.i path (putF d k)) En := h
      rw [q3] at h
      exact h
    obtain ⟨dd, hat, d'', hset⟩ := chg_at hP3
    obtain ⟨g0, rg0, _⟩ := foc_at E3 ho hat hv fo3
    cases dd with
    | dct kvs0 =>
      obtain ⟨bb, ks0, g1, rfl, rd0, _, _⟩ := rg0.dct_later
      obtain ⟨H4, hd, hn⟩ := dput_end hP0 ((e1.trans e2).trans e3) (s1.trans s23) E3 ho hv fo3 r1' K1' r3
      exact ⟨bb, H4, rfl, hd, hn⟩
    | _ => cases hset
end DL
set_option maxRecDepth 100000
namespace DL
open PySem PySem.Spec PyProof.Rows L2
/-! ### a dict that is walked is locked -/
section
variable {cm : CM} {ms : List M} {Z : Zn} {H H' : Hp} {σ : L2.St} {env : EnvD} {OW : List Addr} {a : Addr} {od : Obj} {ks : List (Key × V)}
theorem RpL.lockd {vs ds f} (h : RpL cm H vs ds f) (e : H a = some (.dK ks)) : RpL cm (upd H a (.frz od (.dK ks))) vs ds f := by
  refine h.keep (fun x u _ r nf => ?_) (fun x us r => ?_) fun x o us r => ?_
  · by_cases hx : x = a
    · subst hx
      rcases r with r | ⟨o, r⟩
      · rw [e] at r; cases r
        exact .inr ⟨od, upd_same⟩
      · rw [e] at r; cases r
    · rcases r with r | ⟨o, r⟩
      · exact .inl (by rw [upd_ne hx]; exact r)
      · exact .inr ⟨o, by rw [upd_ne hx]; exact r⟩
  · have hx : x ≠ a := fun z => by
      subst z
      rcases r with r | ⟨o, r⟩ <;> rw [e] at r <;> cases r
    rcases r with r | ⟨o, r⟩
    · exact .inl (by rw [upd_ne hx]; exact r)
    · exact .inr ⟨o, by rw [upd_ne hx]; exact r⟩
  · have hx : x ≠ a := fun z => by subst z; rw [e] at r; cases r
    rw [upd_ne hx]; exact r
theorem RpL.unlockd {vs ds f} (h : RpL cm H vs ds f) (e : H a = some (.frz od (.dK ks))) : RpL cm (upd H a (.dK ks)) vs ds f := by
  refine h.keep (fun x u _ r nf => ?_) (fun x us r => ?_) fun x o us r => ?_
  · by_cases hx : x = a
    · subst hx
      rcases r with r | ⟨o, r⟩
      · rw [e] at r; cases r
        exact absurd rfl (nf _ _)
      · rw [e] at r; cases r
        exact .inl upd_same
    · rcases r with r | ⟨o, r⟩
      · exact .inl (by rw [upd_ne hx]; exact r)
      · exact .inr ⟨o, by rw [upd_ne hx]; exact r⟩
  · have hx : x ≠ a := fun z => by
      subst z
      rcases r with r | ⟨o, r⟩ <;> rw [e] at r <;> cases r
    rcases r with r | ⟨o, r⟩
    · exact .inl (by rw [upd_ne hx]; exact r)
    · exact .inr ⟨o, by rw [upd_ne hx]; exact r⟩
  · have hx : x ≠ a := fun z => by subst z; rw [e] at r; cases r
    rw [upd_ne hx]; exact r
theorem Sl.map {vs : Unit} (k : ∀ vs ds f, RpL cm H vs ds f → RpL cm H' vs ds f) (h : Sl cm Z H ms σ env OW) : Sl cm Z H' ms σ env OW := by
  induction h with
  | nil => exact .nil
  | dead _ ih => exact .dead ih
  | sh r z _ ih => exact .sh (k _ _ _ r) z ih
  | bor r z _ ih => exact .bor (k _ _ _ r) z ih
  | own r _ ih => exact .own (k _ _ _ r) ih
theorem upd_some {u : HO} : ∀ x, H x ≠ none → upd H a u x ≠ none := fun x q => by
  by_cases e : x = a
  · subst e; rw [upd_same]; intro z; cases z
  · rw [upd_ne e]; exact q
theorem ER.lockd (E : ER cm ms Z H σ env OW) (e : H a = some (.dK ks)) (na : a ∉ OW) : ER cm ms Z (upd H a (.frz od (.dK ks))) σ env OW :=
  ⟨Sl.map (vs := ()) (fun _ _ _ r => r.lockd e) E.sl, E.nd, fun x hx => by
    obtain ⟨u, q, w⟩ := E.wr x hx
    exact ⟨u, by rw [upd_ne (by intro z; subst z; exact na hx)]; exact q, w⟩, E.dis, fun x hx => upd_some x (E.tr x hx), E.sub⟩
theorem ER.unlockd (E : ER cm ms Z H σ env OW) (e : H a = some (.frz od (.dK ks))) : ER cm ms Z (upd H a (.dK ks)) σ env OW :=
  ⟨Sl.map (vs := ()) (fun _ _ _ r => r.unlockd e) E.sl, E.nd, fun x hx => by
    obtain ⟨u, q, w⟩ := E.wr x hx
    exact ⟨u, by rw [upd_ne (fun z => by subst z; rw [e] at q; cases q; exact w.elim)]; exact q, w⟩, E.dis, fun x hx => upd_some x (E.tr x hx), E.sub⟩
end
section
variable {Z Z' : Zn} {OW OW' : List Addr} {H H' : Hp} {a : Addr} {u u' : HO}
theorem Stp.lockd (h : H a = some u) : Stp Z OW H Z OW (upd H a u') := ⟨fun _ h => .inl h, fun _ h => h, fun _ h => h, fun _ h => .inl h, fun _ h => .inl h, upd_some⟩
theorem Stp.unlockd (e : H a = some u) (s : Stp Z OW (upd H a u') Z' OW' H') : Stp Z OW H Z' OW' (upd H' a u) := by
  have back : ∀ x, upd H a u' x = none → H x = none := fun x q => by
    by_cases z : x = a
    · subst z; rw [upd_same] at q; cases q
    · rw [upd_ne z] at q; exact q
  exact ⟨fun x hx => (s.ow x hx).imp id (back x), s.n1, s.s1, fun x hx => (s.n2 x hx).imp id (Or.imp id (back x)), fun x hx => (s.s2 x hx).imp id (Or.imp id (back x)), fun x hx => upd_some x (s.gro x (upd_some x hx))⟩
theorem Fr.unlockd (e : H a = some u) (f : Fr OW (upd H a u') H') : Fr OW H (upd H' a u) := fun x o q hx => by
  by_cases z : x = a
  · subst z
    rw [e] at q; cases q
    exact upd_same
  · rw [upd_ne z]
    exact f x o (by rw [upd_ne z]; exact q) hx
end
def noEx (o : Option Out) : Option Out := match o with
  | some (.ex _ _ _) => none
  | o => o
def lockEn (d : Addr) (od : Obj) (u : HO) (D : Ends) : Ends := ⟨fun σ' H' => H' d = some (.frz od u) ∧ D.nx σ' (upd H' d u), fun v H' => H' d = some (.frz od u) ∧ D.rt v (upd H' d u), fun σ' H' => H' d = some (.frz od u) ∧ D.bk σ' (upd H' d u), fun σ' H' => H' d = some (.frz od u) ∧ D.ct σ' (upd H' d u)⟩
theorem PoS.lockd {p : Pm} {c : Cm} {k : Option (List M)} {Z : Zn} {H : Hp} {OW : List Addr} {o : Option Out} {En : Ends} {a : Addr} {od : Obj} {ks : List (Key × V)} (h : PoS p c k Z H OW (noEx o) En) (e : H a = some (.dK ks)) (na : a ∉ OW) :
    PoS p c k Z (upd H a (.frz od (.dK ks))) OW o (lockEn a od (.dK ks) En) := by
  cases o with
  | none => exact h
  | some o =>
    cases o with
    | nx env' =>
      have h : PoS p c k Z H OW (some (.nx env')) En := h
      intro ms' q σ' H' Z' OW' fr st E
      have ea := fr a _ upd_same na
      exact ⟨ea, h ms' q σ' _ Z' OW' (Fr.unlockd e fr) (Stp.unlockd e st) (E.unlockd ea)⟩
    | bk env' =>
      have h : PoS p c k Z H OW (some (.bk env')) En := h
      intro σ' H' Z' OW' fr st E
      have ea := fr a _ upd_same na
      exact ⟨ea, h σ' _ Z' OW' (Fr.unlockd e fr) (Stp.unlockd e st) (E.unlockd ea)⟩
    | ct env' =>
      have h : PoS p c k Z H OW (some (.ct env')) En := h
      intro σ' H' Z' OW' fr st E
      have ea := fr a _ upd_same na
      exact ⟨ea, h σ' _ Z' OW' (Fr.unlockd e fr) (Stp.unlockd e st) (E.unlockd ea)⟩
    | ex cl pl env' => exact h.elim
    | rt d =>
      have h : PoS p c k Z H OW (some (.rt d)) En := h
      intro v H' g fr r K
      have ea := fr a _ upd_same na
      refine ⟨ea, h v _ g (Fr.unlockd e fr) (r.unlockd ea) ?_⟩
      have back : ∀ x, (x ∈ OW ∨ upd H a (.frz od (.dK ks)) x = none) → (x ∈ OW ∨ H x = none) := fun x q => q.imp id fun q => by
        by_cases z : x = a
        · subst z; rw [upd_same] at q; cases q
        · rw [upd_ne z] at q; exact q
      cases q : c.rk with
      | own =>
        rw [q] at K
        refine ⟨K.1, fun x hx => ⟨back x (K.2 x hx).1, ?_⟩⟩
        obtain ⟨u, q, w⟩ := (K.2 x hx).2
        exact ⟨u, by rw [upd_ne (fun z => by subst z; rw [ea] at q; cases q; exact w.elim)]; exact q, w⟩
      | sh =>
        rw [q] at K
        exact fun x hx => (K x hx).imp id (back x)
      | bor => trivial
      | any => trivial
theorem PoS.noEx {p : Pm} {c : Cm} {k : Option (List M)} {Z : Zn} {H : Hp} {OW : List Addr} {o : Option Out} {En : Ends} (h : PoS p c k Z H OW (DL.noEx o) En) : PoS p c k Z H OW o En := by
  cases o with
  | none => exact h
  | some o => cases o <;> first | exact h | exact h.elim
/-! ### the walk of a dict -/
def itemD (kv : Key × D) : D := .tup [kD kv.1, kv.2]
def keyOf (kv : Key × D) : D := kD kv.1
def dsD (items : Bool) (kvs : List (Key × D)) : List D := kvs.map (if items then itemD else keyOf)
theorem kD_rp {cm : CM} {H : Hp} (k : Key) : RpL cm H [kV k] [kD k] [] := by cases k <;> exact RpL.at rfl
theorem keys_get {α β : Type} {ks : List (Key × α)} {kvs : List (Key × β)} (e : ks.map (·.1) = kvs.map (·.1)) {i : Nat} {q : Key × β} (h : kvs[i]? = some q) : ∃ v, ks[i]? = some (q.1, v) := by
  have h1 : (ks.map (·.1))[i]? = some q.1 := by rw [e, List.getElem?_map, h]; rfl
  rw [List.getElem?_map] at h1
  obtain ⟨⟨k, v⟩, h2, h3⟩ := Option.map_eq_some_iff.mp h1
  have h3 : k = q.1 := h3
  subst h3
  exact ⟨v, h2⟩
theorem itOk_keys {cm : CM} {Z : Zn} {OW : List Addr} {H : Hp} {a : Addr} {o : Obj} {ks : List (Key × V)} {kvs : List (Key × D)} (e : H a = some (.frz o (.dK ks))) (na : a ∉ OW) (ee : ks.map (·.1) = kvs.map (·.1)) : ItOk cm (Itk a o ks) .own Z OW H (dsD false kvs) := by
  intro Z1 OW1 H1 fr s
  have e1 := fr a _ e na
  refine ⟨fun i d q => ?_, fun i hi => ⟨e1, by unfold dsD at hi; rw [List.length_map] at hi; rw [keys_len ee]; exact hi⟩⟩
  unfold dsD at q
  rw [List.getElem?_map] at q
  obtain ⟨kv, q1, rfl⟩ := Option.map_eq_some_iff.mp q
  obtain ⟨v, q2⟩ := keys_get ee q1
  have hi : i < ks.length := by
    rcases Nat.lt_or_ge i ks.length with z | z
    · exact z
    · rw [List.getElem?_eq_none z] at q2; cases q2
  refine ⟨⟨e1, hi⟩, fun x H2 hy => ?_⟩
  obtain ⟨rfl, k, v', q3, rfl⟩ := hy
  rw [q2] at q3; cases q3
  exact ⟨Same.refl _, [], kD_rp _, fun _ => rfl, KdN.nil _⟩
theorem itOk_items {cm : CM} {Z : Zn} {OW : List Addr} {H : Hp} {a : Addr} {o : Obj} {ks : List (Key × V)} {kvs : List (Key × D)} {g : List Addr} {kd : Kd} (e : H a = some (.frz o (.dK ks))) (na : a ∉ OW) (ee : ks.map (·.1) = kvs.map (·.1))
    (rr : RpL cm H (ks.map (·.2)) (kvs.map (·.2)) g) (ng : ∀ x ∈ g, x ∉ OW) (w : ∀ x ∈ OW, WrA H x) (kk : g = [] ∨ ((kd = .sh ∧ ∀ x ∈ g, Z.s x) ∨ (kd = .bor ∧ ∀ x ∈ g, Z.n x))) : ItOk cm (Iti a o ks) kd Z OW H (dsD true kvs) := by
  intro Z1 OW1 H1 fr s
  have e1 := fr a _ e na
  have r1 := rr.later fr ng w
  refine ⟨fun i d q => ?_, fun i hi => ⟨e1, by unfold dsD at hi; rw [List.length_map] at hi; rw [keys_len ee]; exact hi⟩⟩
  unfold dsD at q
  rw [List.getElem?_map] at q
  obtain ⟨kv, q1, rfl⟩ := Option.map_eq_some_iff.mp q
  obtain ⟨v, q2⟩ := keys_get ee q1
  have hi : i < ks.length := by
    rcases Nat.lt_or_ge i ks.length with z | z
    · exact z
    · rw [List.getElem?_eq_none z] at q2; cases q2
  refine ⟨⟨e1, hi⟩, fun x H2 hy => ?_⟩
  obtain ⟨T, k, v', q3, rfl, hT, rfl⟩ := hy
  rw [q2] at q3; cases q3
  obtain ⟨v2, g', q4, rv, sub, _⟩ := r1.get i kv.2 (by rw [List.getElem?_map, q1]; rfl)
  rw [List.getElem?_map, q2] at q4
  cases q4
  have e4 := same_upd (o := .tup [kV kv.1, v]) hT
  refine ⟨e4, g', RpL.tup1 (.inl upd_same) ((kD_rp _).cons1 (rv.same e4)), ?_⟩
  rcases kk with kk | ⟨rfl, kk⟩ | ⟨rfl, kk⟩
  · subst kk
    have : g' = [] := by
      cases g' with
      | nil => rfl
      | cons y _ => exact absurd (sub y List.mem_cons_self) (by simp)
    subst this
    exact ⟨fun _ => rfl, KdN.nil _⟩
  · exact ⟨fun z => (by cases z), fun y hy => s.s1 y (kk y (sub y hy))⟩
  · exact ⟨fun z => (by cases z), fun y hy => s.n1 y (kk y (sub y hy))⟩
/-- for k in d / for k, v in d.items(), d in a slot -/
def tDct (items : Bool) (i : Nat) : TI := if items then iItems (tVar i) else iKeys (tVar i)
def kdDct (items im : Bool) : M → Option Kd
  | .dead => none
  | .sh => some (if items && !im then .sh else .own)
  | .own => some (if items && !im then .sh else .own)
  | .bor => some (if items && !im then .bor else .own)
def shD (ms : List M) (i : Nat) : List M := if ms[i]? = some .own then ms.set i .sh else ms
def XS.fordct (i : Nat) (items im : Bool) (g : XG) (body : XS) (l : List Nat) : XS where
  t p := fun D σ H => tLock (tFor (tDct items i) (g.t p) (body.t p)) D σ H ∨ tFor (tDct items i) (g.t p) (body.t p) D σ H
  f env := match eget env i with
    | some (.ok (.dct kvs)) => if !im || immL (kvs.map (·.2)) then noEx (forD g.f body.f l (dsD items kvs) env) else none
    | _ => none
  mo c ms := match ms[i]? with
    | none => none
    | some m => match kdDct items im m with
      | none => none
      | some kd => if wk ms (shD ms i) && moFor g body l c kd (shD ms i) then some (some (shD ms i)) else none
  ok p c ms k hm Z H σ env OW En E hP := by
    split at hm
    · cases hm
    next m em =>
    split at hm
    · cases hm
    next kd ek =>
    split at hm
    case isFalse => cases hm
    next hc =>
    cases hm
    rw [Bool.and_eq_true] at hc
    obtain ⟨hw, hc⟩ := hc
    obtain ⟨Z1, OW1, E1, s1⟩ := E.weak hw
    have hP := PoS.after hP (fun a o q _ => q) s1
    have em1 : ∃ m', (shD ms i)[i]? = some m' ∧ m' ≠ .dead ∧ m' ≠ .own ∧ kdDct items im m' = some kd := by
      unfold shD
      by_cases ho : ms[i]? = some .own
      · rw [if_pos ho]
        rw [em] at ho
        cases ho
        have lt : i < ms.length := by
          rcases Nat.lt_or_ge i ms.length with h | h
          · exact h
          · rw [List.getElem?_eq_none h] at em; cases em
        exact ⟨.sh, List.getElem?_set_self lt, (by intro z; cases z), (by intro z; cases z), ek⟩
      · rw [if_neg ho]
        refine ⟨m, em, ?_, ?_, ek⟩
        · intro z; subst z; cases ek
        · intro z; subst z; exact ho em
    obtain ⟨m', em1, nd, no, ek1⟩ := em1
    obtain ⟨v, d, f, e1, e2, r, hsh, hbo, _⟩ := E1.sl.at i m' em1 nd
    have eg : eget env i = some (.ok d) := by unfold eget; rw [e2]
    rw [eg] at hP
    cases d with
    | dct kvs =>
      have hP : PoS p c (some (shD ms i)) Z1 H OW1 (if !im || immL (kvs.map (·.2)) then noEx (forD g.f body.f l (dsD items kvs) env) else none) En := hP
      split at hP
      case isFalse => exact hP.elim
      next hi =>
      obtain ⟨a, ks, fg, rfl, rd, ee, rr, rfl⟩ := r.dct_of
      have fz : ∀ x ∈ a :: fg, Z1.n x := fun x hx => by
        cases m' with
        | dead => exact absurd rfl nd
        | own => exact absurd rfl no
        | sh => exact E1.sub x (hsh rfl x hx)
        | bor => exact hbo rfl x hx
      have nO : ∀ x ∈ a :: fg, x ∉ OW1 := fun x hx z => E1.dis x z (fz x hx)
      have na := nO a List.mem_cons_self
      have kk : items = true → fg = [] ∨ ((kd = .sh ∧ ∀ x ∈ fg, Z1.s x) ∨ (kd = .bor ∧ ∀ x ∈ fg, Z1.n x)) := fun hit => by
        subst hit
        cases im with
        | true => exact .inl (rr.imm (by simpa using hi))
        | false =>
          cases m' with
          | dead => exact absurd rfl nd
          | own => exact absurd rfl no
          | sh => cases ek1; exact .inr (.inl ⟨rfl, fun x hx => hsh rfl x (List.mem_cons_of_mem _ hx)⟩)
          | bor => cases ek1; exact .inr (.inr ⟨rfl, fun x hx => hbo rfl x (List.mem_cons_of_mem _ hx)⟩)
      have kdk : items = false → kd = .own := fun hit => by
        subst hit
        cases m' <;> first | exact absurd rfl nd | exact absurd rfl no | (cases ek1; rfl)
      have run : ∀ (o : Obj) (H2 : Hp) (En2 : Ends), H2 a = some (.frz o (.dK ks)) → ER p.cm (shD ms i) Z1 H2 σ env OW1 → RpL p.cm H2 (ks.map (·.2)) (kvs.map (·.2)) fg → PoS p c (some (shD ms i)) Z1 H2 OW1 (forD g.f body.f l (dsD items kvs) env) En2 → tFor (tDct items i) (g.t p) (body.t p) En2 σ H2 := by
        intro o H2 En2 h2 E2 rr2 hP2
        cases items with
        | true =>
          exact ⟨.ref a, e1, a, o, ks, rfl, h2, for_run hc E2 (itOk_items h2 na ee rr2 (fun x hx => nO x (List.mem_cons_of_mem _ hx)) E2.wr (kk rfl)) hP2⟩
        | false =>
          have := kdk rfl
          subst this
          exact ⟨.ref a, e1, a, o, rfl, .inl ⟨ks, h2, for_run hc E2 (itOk_keys h2 na ee) hP2⟩⟩
      rcases rd with h0 | ⟨o, h0⟩
      · left
        refine ⟨a, .dK ks, h0, trivial, fun od => ?_⟩
        exact run od _ _ upd_same (E1.lockd h0 na) (rr.lockd h0) (hP.lockd h0 na)
      · right
        exact run o H En h0 E1 rr hP.noEx
    | _ => exact hP.elim
theorem ps_lockA {X : Cx} {st : Stmt} {t : TS} (h : PS X st t) : PS X st (fun D σ H => tLock t D σ H ∨ t D σ H) :=
  ⟨fun pins s σ H D I hw => hw.elim (fun q => (ps_lock h).run pins s σ H D I q) fun q => h.run pins s σ H D I q⟩
end DL
set_option maxRecDepth 100000
namespace DL
open PySem PySem.Spec PyProof.Rows L2
theorem Same.unlockd {H H' : Hp} {a : Addr} {u u' : HO} (e : H a = some u) (f : Same (upd H a u') H') : Same H (upd H' a u) := fun x o q => by
  by_cases z : x = a
  · subst z
    rw [e] at q; cases q
    exact upd_same
  · rw [upd_ne z]
    exact f x o (by rw [upd_ne z]; exact q)
theorem PoE.lockd {p : Pm} {k : Kd} {ms' : List M} {Z : Zn} {H : Hp} {σ : L2.St} {env : EnvD} {OW : List Addr} {o : Option D} {Q : VK} {a : Addr} {od : Obj} {ks : List (Key × V)} (h : PoE p k ms' Z H σ env OW (o.map .ok) Q) (e : H a = some (.dK ks)) :
    PoE p k ms' Z (upd H a (.frz od (.dK ks))) σ env OW (o.map .ok) fun v H' => H' a = some (.frz od (.dK ks)) ∧ Q v (upd H' a (.dK ks)) := by
  cases o with
  | none => exact h
  | some d =>
    intro v H' f Z' OW' sm st E r K
    have ea := sm a _ upd_same
    have back : ∀ x, upd H a (.frz od (.dK ks)) x = none → H x = none := fun x q => by
      by_cases z : x = a
      · subst z; rw [upd_same] at q; cases q
      · rw [upd_ne z] at q; exact q
    refine ⟨ea, h v _ f Z' OW' (Same.unlockd e sm) (Stp.unlockd e st) (E.unlockd ea) (r.unlockd ea) ?_⟩
    cases k with
    | own =>
      refine ⟨K.1, fun x hx => ?_⟩
      obtain ⟨h1, h2, h3, u, q, w⟩ := K.2 x hx
      exact ⟨h1, h2, h3.imp id (back x), u, by rw [upd_ne (by intro z; subst z; rw [ea] at q; cases q; exact w.elim)]; exact q, w⟩
    | sh => exact K
    | bor => exact K
    | any => trivial
/-- [e for k, v in d.items() if c], d in a slot -/
def XE.lcd (own : List Nat) (i : Nat) (items im : Bool) (g : XG) (c : XT) (e : XE) : XE where
  t p := fun σ H Q => tLockE (tLc (tDct items i) (g.t p) (c.t (p0 p)) (e.t (p0 p)) own) σ H Q ∨ tLc (tDct items i) (g.t p) (c.t (p0 p)) (e.t (p0 p)) own σ H Q
  f env := match eget env i with
    | some (.ok (.dct kvs)) => if !im || immL (kvs.map (·.2)) then (compD g.f c.f e.f (wipeE env own) (dsD items kvs) []).map fun ds => .ok (.lst ds) else none
    | _ => none
  mo ms := match ms[i]? with
    | none => none
    | some m => match kdDct items im (lend1 m) with
      | none => none
      | some kd => if wk ms (shD ms i) then (moLc own g c e kd (lendM (shD ms i))).map fun k => (k, shD ms i) else none
  ok p ms k msx hm Z H σ env OW Q E hP := by
    split at hm
    · cases hm
    next m em =>
    split at hm
    · cases hm
    next kd ek =>
    split at hm
    case isFalse => cases hm
    next hw =>
    obtain ⟨k0, hk, he⟩ := Option.map_eq_some_iff.mp hm
    have hk0 : k = k0 := by cases he; rfl
    have hms : msx = shD ms i := by cases he; rfl
    subst hk0 hms
    clear he hm
    obtain ⟨Z1, OW1, E1, s1⟩ := E.weak hw
    have hP := PoE.after hP (Same.refl H) s1
    have em1 : ∃ m', (shD ms i)[i]? = some m' ∧ m' ≠ .dead ∧ m' ≠ .own ∧ (items = true → im = false → (kd = .sh ∧ m' = .sh) ∨ kd = .bor) := by
      unfold shD
      by_cases ho : ms[i]? = some .own
      · rw [if_pos ho]
        rw [em] at ho
        cases ho
        have lt : i < ms.length := by
          rcases Nat.lt_or_ge i ms.length with h | h
          · exact h
          · rw [List.getElem?_eq_none h] at em; cases em
        refine ⟨.sh, List.getElem?_set_self lt, (by intro z; cases z), (by intro z; cases z), fun a b => ?_⟩
        subst a b
        cases ek
        exact .inr rfl
      · rw [if_neg ho]
        refine ⟨m, em, ?_, ?_, fun a b => ?_⟩
        · intro z; subst z; cases ek
        · intro z; subst z; exact ho em
        · subst a b
          cases m with
          | dead => cases ek
          | own => exact absurd em ho
          | sh => cases ek; exact .inl ⟨rfl, rfl⟩
          | bor => cases ek; exact .inr rfl
    obtain ⟨m', em1, nd, no, ek1⟩ := em1
    obtain ⟨v, d, f, e1, e2, r, hsh, hbo, _⟩ := E1.sl.at i m' em1 nd
    have eg : eget env i = some (.ok d) := by unfold eget; rw [e2]
    rw [eg] at hP
    cases d with
    | dct kvs =>
      have hP : PoE p k (shD ms i) Z1 H σ env OW1 (if !im || immL (kvs.map (·.2)) then (compD g.f c.f e.f (wipeE env own) (dsD items kvs) []).map fun ds => .ok (.lst ds) else none) Q := hP
      split at hP
      case isFalse => exact hP.elim
      next hi =>
      obtain ⟨a, ks, fg, rfl, rd, ee, rr, rfl⟩ := r.dct_of
      have fz : ∀ x ∈ a :: fg, Z1.n x := fun x hx => by
        cases m' with
        | dead => exact absurd rfl nd
        | own => exact absurd rfl no
        | sh => exact E1.sub x (hsh rfl x hx)
        | bor => exact hbo rfl x hx
      have nO : ∀ x ∈ a :: fg, x ∉ OW1 := fun x hx z => E1.dis x z (fz x hx)
      have na := nO a List.mem_cons_self
      have run : ∀ (o : Obj) (H2 : Hp) (Q2 : VK), H2 a = some (.frz o (.dK ks)) → ER p.cm (shD ms i) Z1 H2 σ env OW1 → RpL p.cm H2 (ks.map (·.2)) (kvs.map (·.2)) fg → PoE p k (shD ms i) Z1 H2 σ env OW1 ((compD g.f c.f e.f (wipeE env own) (dsD items kvs) []).map fun ds => .ok (.lst ds)) Q2 → tLc (tDct items i) (g.t p) (c.t (p0 p)) (e.t (p0 p)) own σ H2 Q2 := by
        intro o H2 Q2 h2 E2 rr2 hP2
        have EL := E2.lend
        cases items with
        | true =>
          refine ⟨.ref a, e1, a, o, ks, rfl, h2, lc_run hk E2 hP2 (Same.refl H2) Stp.refl EL (itOk_items h2 (fun z => by cases z) ee rr2 (fun x hx z => by cases z) EL.wr ?_)⟩
          cases im with
          | true => exact .inl (rr.imm (by simpa using hi))
          | false =>
            rcases ek1 rfl rfl with ⟨rfl, rfl⟩ | rfl
            · exact .inr (.inl ⟨rfl, fun x hx => hsh rfl x (List.mem_cons_of_mem _ hx)⟩)
            · exact .inr (.inr ⟨rfl, fun x hx => .inl (fz x (List.mem_cons_of_mem _ hx))⟩)
        | false =>
          have : kd = .own := by cases m <;> first | cases ek; rfl | cases ek
          subst this
          exact ⟨.ref a, e1, a, o, rfl, .inl ⟨ks, h2, lc_run hk E2 hP2 (Same.refl H2) Stp.refl EL (itOk_keys h2 (fun z => by cases z) ee)⟩⟩
      rcases rd with h0 | ⟨o, h0⟩
      · left
        refine ⟨a, .dK ks, h0, trivial, fun od => ?_⟩
        refine run od _ _ upd_same (E1.lockd h0 na) (rr.lockd h0) ?_
        have := PoE.lockd (od := od) (o := (compD g.f c.f e.f (wipeE env own) (dsD items kvs) []).map fun ds => D.lst ds) (a := a) (ks := ks) (Q := Q) (p := p) (k := k) (ms' := shD ms i) (Z := Z1) (H := H) (σ := σ) (env := env) (OW := OW1) (by rw [Option.map_map]; exact hP) h0
        rw [Option.map_map] at this
        exact this
      · right
        exact run o H Q h0 E1 rr hP
    | _ => exact hP.elim
theorem pe_lockA {X : Cx} {e : Expr} {t : TE} (h : PE X e t) : PE X e (fun σ H Q => tLockE t σ H Q ∨ t σ H Q) :=
  ⟨fun pins s σ H D I hw => hw.elim (fun q => (pe_lock h).run pins s σ H D I q) fun q => h.run pins s σ H D I q⟩
end DL
set_option maxRecDepth 100000
namespace DL
open PySem PySem.Spec PyProof.Rows L2
/-! ### list(range(n)) -/
theorem rgV_rp {cm : CM} {H : Hp} (lo hi : Int) : RpL cm H (rgV lo hi) (rgD lo (hi - lo).toNat) [] := by
  have key : ∀ l : List Nat, RpL cm H (l.map fun i => V.int (lo + (i : Nat))) (l.map fun (i : Nat) => D.int (lo + (i : Int))) [] := fun l => by
    induction l with
    | nil => exact .nil
    | cons x xs ih => exact .atom rfl ih
  exact key _
def lrF (x : D) : Option (R D) := match x with
  | .int n => if decide (0 ≤ n) && decide (n ≤ 16777216) then some (.ok (.lst (rgD 0 n.toNat))) else none
  | _ => none
def XE.lr (a : XE) : XE where
  t p := tLstRg (tRg1 (a.t p))
  f env := b1 (a.f env) lrF
  mo ms := match a.mo ms with
    | some (_, m1) => some (.own, m1)
    | none => none
  ok p ms k ms' hm Z H σ env OW Q E hP := by
    split at hm
    case h_2 => cases hm
    next k1 m1 h1 =>
    cases hm
    refine XE.one (T := fun x H1 => ∃ n, x = .int n ∧ (RgOk 0 n ∧ ∀ q, H1 q = none → Q (.ref q) (upd H1 q (.lst (rgV 0 n))))) a h1 E hP fun d v H1 f1 Z1 OW1 _ e1 s1 E1 r1 K1 hP1 => ?_
    cases d with
    | int n =>
      obtain ⟨rfl, rfl⟩ := r1.int_of
      have hP1 : PoE p .own ms' Z H σ env OW (if decide (0 ≤ n) && decide (n ≤ 16777216) then some (.ok (.lst (rgD 0 n.toNat))) else none) Q := hP1
      split at hP1
      case isFalse => exact hP1.elim
      next hc =>
      rw [Bool.and_eq_true] at hc
      have c1 := of_decide_eq_true hc.1
      have c2 := of_decide_eq_true hc.2
      refine ⟨n, rfl, RgOk.of_le (by omega) c2 (by omega) c1, fun q hq => ?_⟩
      have e2 := same_upd (o := .lst (rgV 0 n)) hq
      obtain ⟨Z2, s2, E2, K2⟩ := KdOk.new (KdOk.nil .own) s1 E1 (fun a ha => by cases ha) hq (o := .lst (rgV 0 n)) trivial
      have rr : RpL p.cm (upd H1 q (.lst (rgV 0 n))) (rgV 0 n) (rgD 0 n.toNat) [] := by
        have := rgV_rp (cm := p.cm) (H := upd H1 q (.lst (rgV 0 n))) 0 n
        rwa [Int.sub_zero] at this
      exact hP1 _ _ [q] Z2 OW1 (e1.trans e2) s2 E2 (RpL.lst1 (.inl upd_same) rr) K2
    | _ => exact hP1.elim
/-! ### a op b op' c -/
def XE.ch (o o' : IOp) (a b c : XE) : XE where
  t p := tChain (fun x y H Q => o.r x y H Q) (fun x y H Q => o'.r x y H Q) (a.t p) (b.t p) (c.t p)
  f env := b2 (a.f env) (b.f env) fun x y => match iopF o.g x y with
    | some (.ok (.bl true)) => b1 (c.f env) fun z => iopF o'.g y z
    | some (.ok (.bl false)) => some (.ok (.bl false))
    | _ => none
  mo ms := match moTwo a b ms with
    | none => none
    | some (_, _, m2) => match c.mo m2 with
      | none => none
      | some (_, m3) => if m3 = m2 then some (.own, m2) else none
  ok p ms k ms' hm Z H σ env OW Q E hP := by
    split at hm
    · cases hm
    next k1 k2 m2 e =>
    split at hm
    · cases hm
    next k3 m3 h3 =>
    split at hm
    case isFalse => cases hm
    next hmm =>
    cases hm
    subst hmm
    obtain ⟨m1, h1, h2⟩ := moTwo_of e
    refine XE.two a b h1 h2 E hP fun d1 d2 v1 v2 H2 f1 f2 Z2 OW2 _ _ e2 s2 E2 r1 r2 K1 K2 _ hP2 => ?_
    cases q : iopF o.g d1 d2 with
    | none => simp only [q] at hP2; exact hP2.elim
    | some r =>
      obtain ⟨i, j, d, rfl, rfl, hg, rfl⟩ := iopF_of q
      obtain ⟨rfl, _⟩ := r1.int_of
      obtain ⟨rfl, _⟩ := r2.int_of
      simp only [q] at hP2
      obtain ⟨v, hv, hr⟩ := o.ok i j d hg
      cases d with
      | bl b =>
        cases hv
        refine hr H2 _ ⟨b, rfl, ?_⟩
        cases b with
        | false =>
          rw [if_neg Bool.false_ne_true]
          exact hP2 _ H2 [] Z2 OW2 e2 s2 E2 (RpL.at rfl) (KdOk.nil _)
        | true =>
          rw [if_pos rfl]
          have hP3 : PoE p .own m3 Z H σ env OW (b1 (c.f env) fun z => iopF o'.g (.int j) z) Q := hP2
          have hP3 := PoE.after hP3 e2 s2
          refine XE.one c h3 E2 hP3 fun d3 v3 H3 f3 Z3 OW3 _ e3 s3 E3 r3 K3 hP4 => ?_
          cases q3 : iopF o'.g (.int j) d3 with
          | none => rw [q3] at hP4; exact hP4.elim
          | some r =>
            obtain ⟨i', j', d', hi, rfl, hg', rfl⟩ := iopF_of q3
            cases hi
            obtain ⟨rfl, _⟩ := r3.int_of
            rw [q3] at hP4
            obtain ⟨v', hv', hr'⟩ := o'.ok _ _ _ hg'
            exact hr' H3 _ (hP4 v' H3 [] Z3 OW3 e3 s3 E3 (RpL.at hv') (KdOk.nil _))
      | _ => exact hP2.elim
/-! ### xs.index(y) -/
def isLst1 : D → Bool
  | .lst _ => true
  | _ => false
def idxF (x y : D) : Option (R D) := match toPy x, toPy y with
  | some (.list ds), some d => if SeqAt.shaped (.list ds) && SeqAt.shaped d then (ds.findIdx? fun z => PyData.eqv z d).map fun j => .ok (.int (j : Nat)) else none
  | _, _ => none
def XE.index (a b : XE) : XE where
  t p := tBM p.cm.K "list" (rIndexD p.cm.K) (a.t p) (tCons (b.t p) tNil)
  f env := b1 (a.f env) fun x => if isLst1 x then b1 (b.f env) fun y => idxF x y else none
  mo ms := match moTwo a b ms with
    | none => none
    | some (_, _, m2) => some (.own, m2)
  ok p ms k ms' hm Z H σ env OW Q E hP := by
    split at hm
    · cases hm
    next k1 k2 m2 e =>
    cases hm
    obtain ⟨m1, h1, h2⟩ := moTwo_of e
    refine XE.one (g := fun x => if isLst1 x then b1 (b.f env) fun y => idxF x y else none) a h1 E hP fun d v H1 f1 Z1 OW1 _ e1 s1 E1 r1 _ hP1 => ?_
    cases d with
    | lst xs =>
      obtain ⟨l, us, g, rfl, rd, rr, rfl⟩ := r1.lst_of
      refine ⟨.inl ⟨rfl, us, .inl rd⟩, ?_⟩
      have hP2 : PoE p .own ms' Z H σ env OW (b1 (b.f env) fun y => idxF (.lst xs) y) Q := hP1
      have hP2 := PoE.after hP2 e1 s1
      refine XE.one (T := fun y H2 => tNil σ H2 fun ys H3 => rIndexD p.cm.K (.ref l) (y :: ys) H3 Q) b h2 E1 hP2 fun d1 v1 H2 f1 Z2 OW2 _ e2 s2 E2 ry _ hP3 => ?_
      unfold idxF at hP3
      cases qx : toPy (.lst xs) with
      | none => rw [qx] at hP3; exact hP3.elim
      | some px =>
        rw [qx] at hP3
        cases qy : toPy d1 with
        | none => rw [qy] at hP3; cases px <;> exact hP3.elim
        | some py =>
          rw [qy] at hP3
          cases px with
          | list ds =>
            have hP3 : PoE p .own ms' Z1 H1 σ env OW1 (if SeqAt.shaped (.list ds) && SeqAt.shaped py then (ds.findIdx? fun z => PyData.eqv z py).map fun j => .ok (.int (j : Nat)) else none) Q := hP3
            split at hP3
            case isFalse => exact hP3.elim
            next hs =>
            rw [Bool.and_eq_true] at hs
            cases qj : ds.findIdx? fun z => PyData.eqv z py with
            | none => rw [qj] at hP3; exact hP3.elim
            | some j =>
              rw [qj] at hP3
              obtain ⟨hj, h3, h4⟩ := List.findIdx?_eq_some_iff_getElem.mp qj
              refine ⟨l, v1, py, ds, j, ds[j], rfl, rfl, (r1.same e2).dp qx, ry.dp qy, hs.1, hs.2, List.getElem?_eq_getElem hj, h3, fun m z' hm hz => ?_, hP3 _ H2 [] Z2 OW2 e2 s2 E2 (RpL.at rfl) (KdOk.nil _)⟩
              have hm' : m < ds.length := by omega
              rw [List.getElem?_eq_getElem hm'] at hz
              cases hz
              simpa using h4 m hm
          | _ => exact hP3.elim
    | _ => exact hP1.elim
/-! ### {a: b} -/
theorem ER.fresh {cm ms Z H σ env OW} (E : ER cm ms Z H σ env OW) {a : Addr} {o o' : HO} (ha : H a = some o) (nz : ¬ Z.n a) (no : a ∉ OW) (hd : o = .dK []) : ER cm ms Z (upd H a o') σ env OW := by
  subst hd
  have k : ∀ vs ds f, (∀ x ∈ f, x ≠ a) → RpL cm H vs ds f → RpL cm (upd H a o') vs ds f := fun vs ds f nf r => by
    refine r.keep (fun x u hx r _ => ?_) (fun x us r => ?_) fun x o us r => ?_
    · rcases r with r | ⟨o, r⟩
      · exact .inl (by rw [upd_ne (nf x hx)]; exact r)
      · exact .inr ⟨o, by rw [upd_ne (nf x hx)]; exact r⟩
    · have hx : x ≠ a := fun z => by
        subst z
        rcases r with r | ⟨o, r⟩ <;> rw [ha] at r <;> cases r
      rcases r with r | ⟨o, r⟩
      · exact .inl (by rw [upd_ne hx]; exact r)
      · exact .inr ⟨o, by rw [upd_ne hx]; exact r⟩
    · have hx : x ≠ a := fun z => by subst z; rw [ha] at r; cases r
      rw [upd_ne hx]; exact r
  have sl : ∀ {ms σ env ow}, Sl cm Z H ms σ env ow → (∀ x ∈ ow, x ≠ a) → Sl cm Z (upd H a o') ms σ env ow := fun h => by
    induction h with
    | nil => exact fun _ => .nil
    | dead _ ih => exact fun q => .dead (ih q)
    | sh r z _ ih => exact fun q => .sh (k _ _ _ (fun x hx => by intro e; subst e; exact nz (E.sub x (z x hx))) r) z (ih q)
    | bor r z _ ih => exact fun q => .bor (k _ _ _ (fun x hx => by intro e; subst e; exact nz (z x hx)) r) z (ih q)
    | own r _ ih => exact fun q => .own (k _ _ _ (fun x hx => q x (List.mem_append_left _ hx)) r) (ih fun x hx => q x (List.mem_append_right _ hx))
  exact ⟨sl E.sl (fun x hx => by intro e; subst e; exact no hx), E.nd, fun x hx => by
    obtain ⟨u, q, w⟩ := E.wr x hx
    exact ⟨u, by rw [upd_ne (by intro z; subst z; exact no hx)]; exact q, w⟩, E.dis, fun x hx => upd_some x (E.tr x hx), E.sub⟩
def pairsV : List V → List (V × V)
  | a :: b :: r => (a, b) :: pairsV r
  | _ => []
/-- the pairs of a display: keys that differ, values that don't change -/
def dispF : List D → Option (List (Key × D))
  | [k, v] => if immD v then (keyD k).map fun k => [(k, v)] else none
  | [k, v, k', v'] => if immD v && immD v' then match keyD k, keyD k' with
      | some a, some b => if a = b then none else some [(a, v), (b, v')]
      | _, _ => none
    else none
  | _ => none
theorem dispF_rp {cm : CM} {H : Hp} {vs : List V} {ds : List D} {f : List Addr} {kvs : List (Key × D)} (r : RpL cm H vs ds f) (h : dispF ds = some kvs) :
    ∃ ks : List (Key × V), pairsV vs = ks.map (fun kv => (kV kv.1, kv.2)) ∧ ks.length ≤ 15 ∧ mergeK [] ks = ks ∧ ks.map (·.1) = kvs.map (·.1) ∧ RpL cm H (ks.map (·.2)) (kvs.map (·.2)) [] := by
  unfold dispF at h
  split at h
  · next k v =>
    split at h
    case isFalse => cases h
    next hi =>
    obtain ⟨a, ha, rfl⟩ := Option.map_eq_some_iff.mp h
    obtain ⟨u1, us, f1, f2, rfl, rfl, r1, rr⟩ := r.cons_of
    obtain ⟨u2, us, f3, f4, rfl, rfl, r2, rr⟩ := rr.cons_of
    obtain ⟨rfl, rfl⟩ := rr.nil_of
    obtain ⟨rfl, rfl⟩ := keyD_of r1 ha
    have : f3 = [] := r2.imm1 hi
    subst this
    exact ⟨[(a, u2)], rfl, by simp, rfl, rfl, r2⟩
  · next k v k' v' =>
    split at h
    case isFalse => cases h
    next hi =>
    rw [Bool.and_eq_true] at hi
    split at h
    case h_2 => cases h
    next a b ha hb =>
    split at h
    · cases h
    next hab =>
    cases h
    obtain ⟨u1, us, f1, f2, rfl, rfl, r1, rr⟩ := r.cons_of
    obtain ⟨u2, us, f3, f4, rfl, rfl, r2, rr⟩ := rr.cons_of
    obtain ⟨u3, us, f5, f6, rfl, rfl, r3, rr⟩ := rr.cons_of
    obtain ⟨u4, us, f7, f8, rfl, rfl, r4, rr⟩ := rr.cons_of
    obtain ⟨rfl, rfl⟩ := rr.nil_of
    obtain ⟨rfl, rfl⟩ := keyD_of r1 ha
    obtain ⟨rfl, rfl⟩ := keyD_of r3 hb
    have : f3 = [] := r2.imm1 hi.1
    subst this
    have : f7 = [] := r4.imm1 hi.2
    subst this
    refine ⟨[(a, u2), (b, u4)], rfl, by simp, ?_, rfl, r2.cons1 r4⟩
    show putK (putK [] a u2) b u4 = _
    have e1 : putK ([] : List (Key × V)) a u2 = [(a, u2)] := rfl
    rw [e1, putK_new]
    · rfl
    · exact valV_neg (p := (a, u2)) hab
  · cases h
def tDisp2 : Bool → TA → TE := fun two t => fun σ H Q => ∀ p, H p = none → t σ (upd H p (.dK [])) fun vs H2 => H2 p = some (.dK []) ∧ ∃ kvs : List (Key × V), pairsV vs = kvs.map (fun kv => (kV kv.1, kv.2)) ∧ kvs.length ≤ 15 ∧ Q (.ref p) (upd H2 p (.dK (mergeK [] kvs)))
theorem pe_disp1 {X : Cx} {pos : Pos} {k v : Expr} {tk tv : TE} (hk : PE X k tk) (hv : PE X v tv) : PE X (.Dict [some k] [v] pos) (tDisp2 false (tCons tk (tCons tv tNil))) :=
  ⟨fun pins s σ H Q I h => (pe_disp (pps_cons hk hv pps_nil) rfl rfl (by simp) (by simp)).run pins s σ H Q I h⟩
theorem pe_disp2 {X : Cx} {pos : Pos} {k v k' v' : Expr} {tk tv tk' tv' : TE} (hk : PE X k tk) (hv : PE X v tv) (hk' : PE X k' tk') (hv' : PE X v' tv') : PE X (.Dict [some k, some k'] [v, v'] pos) (tDisp2 true (tCons tk (tCons tv (tCons tk' (tCons tv' tNil))))) :=
  ⟨fun pins s σ H Q I h => (pe_disp (pps_cons hk hv (pps_cons hk' hv' pps_nil)) rfl rfl (by simp) (by simp)).run pins s σ H Q I h⟩
def XE.disp (two : Bool) (as : XA) : XE where
  t p := tDisp2 two (as.t p)
  f env := bL (as.f env) fun ds => (dispF ds).map fun kvs => .ok (.dct kvs)
  mo ms := match as.mo ms with
    | some (_, m1) => some (.own, m1)
    | none => none
  ok p ms k ms' hm Z H σ env OW Q E hP := by
    split at hm
    case h_2 => cases hm
    next k1 m1 e =>
    cases hm
    intro a ha
    have e0 := same_upd (o := .dK []) ha
    have s0 : Stp Z OW H Z OW (upd H a (.dK [])) := Stp.same e0
    refine as.ok p ms k1 ms' e Z (upd H a (.dK [])) σ env OW _ (E.same e0) ?_
    cases q : as.f env with
    | none => rw [q] at hP; exact hP
    | some r =>
      rw [q] at hP
      cases r with
      | ex c pl => exact fun dd H' e' x => hP dd H' (e0.trans e') x
      | ok ds =>
        intro vs H1 f Z1 OW1 e1 s1 E1 r1 K1
        have hP : PoE p .own ms' Z H σ env OW ((dispF ds).map fun kvs => .ok (.dct kvs)) Q := hP
        cases qd : dispF ds with
        | none => rw [qd] at hP; exact hP.elim
        | some kvs =>
          rw [qd] at hP
          obtain ⟨ks, h1, h2, h3, h4, h5⟩ := dispF_rp r1 qd
          have ea : H1 a = some (.dK []) := e1 _ _ upd_same
          refine ⟨ea, ks, h1, h2, ?_⟩
          rw [h3]
          have nz : ¬ Z1.n a := fun z => by
            rcases s1.n2 a z with w | w | w
            · exact E.tr a w ha
            · exact E.sl.trk a w ha
            · rw [upd_same] at w; cases w
          have no : a ∉ OW1 := fun z => by
            rcases s1.ow a z with w | w
            · exact E.sl.trk a w ha
            · rw [upd_same] at w; cases w
          have E2 := E1.fresh (o' := .dK ks) ea nz no rfl
          have sm : Same H (upd H1 a (.dK ks)) := fun x o hx => by
            rw [upd_ne (by intro z; subst z; rw [ha] at hx; cases hx)]
            exact e1 x o (e0 x o hx)
          have st : Stp Z OW H Z1 OW1 (upd H1 a (.dK ks)) := by
            have s2 := s0.trans s1
            exact ⟨s2.ow, s2.n1, s2.s1, s2.n2, s2.s2, fun x hx => upd_some x (s2.gro x hx)⟩
          have rr : RpL p.cm (upd H1 a (.dK ks)) (ks.map (·.2)) (kvs.map (·.2)) [] := by
            refine h5.keep (fun x u hx _ _ => by cases hx) (fun x us r => ?_) fun x o us r => ?_
            · have hx : x ≠ a := fun z => by
                subst z
                rcases r with r | ⟨o, r⟩ <;> rw [ea] at r <;> cases r
              rcases r with r | ⟨o, r⟩
              · exact .inl (by rw [upd_ne hx]; exact r)
              · exact .inr ⟨o, by rw [upd_ne hx]; exact r⟩
            · have hx : x ≠ a := fun z => by subst z; rw [ea] at r; cases r
              rw [upd_ne hx]; exact r
          refine hP _ _ [a] Z1 OW1 sm st E2 (RpL.dct1 (.inl upd_same) h4 rr) ⟨by simp, fun x hx => ?_⟩
          have : x = a := by simpa using hx
          subst this
          exact ⟨no, nz, .inr ha, _, upd_same, trivial⟩
end DL
set_option maxRecDepth 100000
namespace DL
open PySem PySem.Spec PyProof.Rows L2
/-! ### a, b, c = a tuple -/
def gNames : List Nat → TGs
  | [] => gNil
  | i :: r => gCons (gName i) (gNames r)
def setsE (env : EnvD) : List Nat → List D → EnvD
  | i :: r, d :: ds => setsE (env.set i (some d)) r ds
  | _, _ => env
def setsM (m : M) (ms : List M) : List Nat → List M
  | i :: r => setsM m (ms.set i m) r
  | [] => ms
theorem names_ok {p : Pm} {k : Kd} {m : M} (hm : mOf k = some m) {Z : Zn} {H : Hp} {Q : L2.St → Hp → Prop} : ∀ (l : List Nat) (ms : List M) (σ : L2.St) (env : EnvD) (OW : List Addr) (vs : List V) (ds : List D) (g : List Addr), ER p.cm ms Z H σ env OW → RpL p.cm H vs ds g → KdN k Z OW H g → ds.length = l.length → (∀ i ∈ l, i < ms.length) →
    (∀ σ' OW', ER p.cm (setsM m ms l) Z H σ' (setsE env l ds) OW' → (∀ a ∈ OW', a ∈ OW ∨ (k = .own ∧ a ∈ g)) → (∀ l', (∀ i ∈ l, i ∈ l') → wipe σ' l' = wipe σ l') → Q σ' H) → gNames l vs σ H Q
  | [], ms, σ, env, OW, vs, ds, g, E, r, K, hl, hi, q => by
    cases ds with
    | nil =>
      obtain ⟨rfl, rfl⟩ := r.nil_of
      exact ⟨rfl, q σ OW E (fun a ha => .inl ha) fun _ _ => rfl⟩
    | cons _ _ => simp at hl
  | i :: l, ms, σ, env, OW, vs, ds, g, E, r, K, hl, hi, q => by
    cases ds with
    | nil => simp at hl
    | cons d ds =>
      obtain ⟨u1, us', g1, g2, rfl, rfl, r1, r2⟩ := r.cons_of
      have part : ∀ g', (∀ a ∈ g', a ∈ g1 ++ g2) → ((g1 ++ g2).Nodup → g'.Nodup) → KdN k Z OW H g' := fun g' s n => by
        cases k with
        | own => exact ⟨n K.1, fun a ha => K.2 a (s a ha)⟩
        | sh => exact fun a ha => K a (s a ha)
        | bor => exact fun a ha => K a (s a ha)
        | any => trivial
      have K1 := part g1 (fun a ha => List.mem_append_left _ ha) fun n => (List.nodup_append.mp n).1
      have K2 := part g2 (fun a ha => List.mem_append_right _ ha) fun n => (List.nodup_append.mp n).2.1
      obtain ⟨o, E1, s1⟩ := E.put (hi i List.mem_cons_self) r1 K1 hm
      have K2' : KdN k Z o H g2 := by
        cases k with
        | own =>
          refine ⟨K2.1, fun a ha => ⟨fun z => ?_, (K2.2 a ha).2⟩⟩
          rcases s1 a z with w | w
          · exact (K2.2 a ha).1 w
          · exact (List.nodup_append.mp K.1).2.2 a w.2 a ha rfl
        | sh => exact K2
        | bor => exact K2
        | any => trivial
      refine ⟨u1, us', rfl, names_ok hm l _ _ _ o us' ds g2 E1 r2 K2' (by simpa using hl) (fun j hj => by rw [List.length_set]; exact hi j (List.mem_cons_of_mem _ hj)) fun σ' OW' E2 s2 hw => q σ' OW' E2 (fun a ha => ?_) fun l' hl' => ?_⟩
      · rcases s2 a ha with z | z
        · rcases s1 a z with w | w
          · exact .inl w
          · exact .inr ⟨w.1, List.mem_append_left _ w.2⟩
        · exact .inr ⟨z.1, List.mem_append_right _ z.2⟩
      · rw [hw l' fun j hj => hl' j (List.mem_cons_of_mem _ hj), wipe_set, if_pos (hl' i List.mem_cons_self)]
def XG.tup (l : List Nat) : XG where
  sl := l
  t p := gTup p.cm.K l.length (gNames l)
  f d env := match d with
    | .tup ds => if ds.length = l.length then some (setsE env l ds) else none
    | _ => none
  mo k ms := match mOf k with
    | some m => if l.all fun i => decide (i < ms.length) then some (setsM m ms l) else none
    | none => none
  ok p k ms ms' hm Z H σ env OW v d g env' Q E hf r K q := by
    split at hm
    case h_2 => cases hm
    next m e =>
    split at hm
    case isFalse => cases hm
    next hi =>
    cases hm
    split at hf
    · next ds =>
      split at hf
      case isFalse => cases hf
      next hl =>
      cases hf
      obtain ⟨a, us, rfl, rd, rr⟩ := r.tup_of
      exact ⟨a, us, rfl, .inl rd, by rw [rr.length]; exact hl, names_ok e l ms σ env OW us ds g E rr K hl (fun i hj => by simpa using List.all_eq_true.mp hi i hj) q⟩
    · cases hf
/-! ### range(n - 1, -1, -1) -/
def rgN (i j : Int) : List D := (List.range (i - j).toNat).map fun (k : Nat) => D.int (i + (k : Int) * (-1))
def rg3F : List D → Option (R (List D))
  | [.int i, .int j, .int c] => if inB i && inB j && decide (c = -1) then some (.ok (rgN i j)) else none
  | _ => none
theorem itOk_rngC {cm : CM} {Z : Zn} {OW : List Addr} {H : Hp} (i j : Int) : ItOk cm (Itc i (-1) (i - j).toNat) .own Z OW H (rgN i j) := by
  intro Z1 OW1 H1 fr s
  refine ⟨fun k d e => ?_, fun k hk => ?_⟩
  · unfold rgN at e
    rw [List.getElem?_map] at e
    obtain ⟨x, e1, rfl⟩ := Option.map_eq_some_iff.mp e
    have hk : k < (i - j).toNat := by
      rcases Nat.lt_or_ge k (i - j).toNat with z | z
      · exact z
      · rw [List.getElem?_eq_none (by rw [List.length_range]; exact z)] at e1; cases e1
    rw [List.getElem?_range hk] at e1
    cases e1
    refine ⟨hk, fun x H2 hy => ?_⟩
    obtain ⟨rfl, rfl⟩ := hy
    exact ⟨Same.refl _, [], RpL.at rfl, fun _ => rfl, KdN.nil _⟩
  · unfold rgN at hk
    rw [List.length_map, List.length_range] at hk
    exact hk
def XI.r3 (as : XA) : XI where
  t p := iRng3 (as.t p)
  f env := bLI (as.f env) rg3F
  mo ms := match as.mo ms with
    | some (_, m1) => some (.own, m1)
    | none => none
  ok p ms kd ms' hm Z H σ env OW R E hP := by
    split at hm
    case h_2 => cases hm
    next k1 m1 e =>
    cases hm
    refine as.ok p ms k1 ms' e Z H σ env OW _ E ?_
    cases q : as.f env with
    | none => rw [q] at hP; exact hP
    | some r =>
      rw [q] at hP
      cases r with
      | ex c pl => exact hP
      | ok ds =>
        intro vs H1 f Z1 OW1 e1 s1 E1 r1 K1
        have hP1 : PoI p .own ms' Z H σ env OW (rg3F ds) R := hP
        unfold rg3F at hP1
        split at hP1
        · next i j c =>
          split at hP1
          case isFalse => exact hP1.elim
          next hc =>
          rw [Bool.and_eq_true, Bool.and_eq_true] at hc
          obtain ⟨⟨hi, hj⟩, hc⟩ := hc
          have hc := of_decide_eq_true hc
          subst hc
          obtain ⟨v1, w1, g1, g2, rfl, rfl, t1, rr⟩ := r1.cons_of
          obtain ⟨v2, w2, g3, g4, rfl, rfl, t2, rr⟩ := rr.cons_of
          obtain ⟨v3, w3, g5, g6, rfl, rfl, t3, rr⟩ := rr.cons_of
          obtain ⟨rfl, rfl⟩ := rr.nil_of
          obtain ⟨rfl, _⟩ := t1.int_of
          obtain ⟨rfl, _⟩ := t2.int_of
          obtain ⟨rfl, _⟩ := t3.int_of
          exact ⟨i, j, -1, (i - j).toNat, rfl, RgC.neg (inB_of hi).1 (inB_of hi).2 (inB_of hj).1 (inB_of hj).2, hP1 _ H1 Z1 OW1 e1 s1 E1 (itOk_rngC i j)⟩
        · exact hP1.elim
/-! ### zip of two lists -/
def zipD (ds es : List D) : List D := (ds.zip es).map fun x => .tup [x.1, x.2]
theorem itOk_zip {cm : CM} {K : PySem.W.Frag} {Z : Zn} {OW : List Addr} {H : Hp} {kd : Kd} {a b : Addr} {us ws : List V} {ds es : List D} {g g' : List Addr} (w : ∀ x ∈ OW, WrA H x) (r : RpL cm H us ds g) (r' : RpL cm H ws es g')
    (ng : ∀ x ∈ g, x ∉ OW) (ng' : ∀ x ∈ g', x ∉ OW) (kk : (g = [] ∧ g' = []) ∨ ((kd = .sh ∧ ∀ x ∈ g ++ g', Z.s x) ∨ (kd = .bor ∧ ∀ x ∈ g ++ g', Z.n x))) (hs : (Rd H a (.lst us) ∧ a ∉ OW) ∨ SqF K H a us) (hs' : (Rd H b (.lst ws) ∧ b ∉ OW) ∨ SqF K H b ws) :
    ItOk cm (Itz K a b) kd Z OW H (zipD ds es) := by
  intro Z1 OW1 H1 fr s
  have r1 := r.later fr ng w
  have r1' := r'.later fr ng' w
  have later : ∀ {a : Addr} {us : List V}, ((Rd H a (.lst us) ∧ a ∉ OW) ∨ SqF K H a us) → SqL K H1 a us := fun hs => by
    rcases hs with ⟨rd, na⟩ | rd
    · exact .inl (rd_later fr rd na)
    · have z : SqF K H1 _ _ := rd.imp (fun ⟨o, z⟩ => ⟨o, frz_later fr z w⟩) id
      exact z.sq
  have rd1 := later hs
  have rd2 := later hs'
  refine ⟨fun i d e => ?_, fun i hi => ?_⟩
  · unfold zipD at e
    rw [List.getElem?_map] at e
    obtain ⟨⟨d1, d2⟩, e1, rfl⟩ := Option.map_eq_some_iff.mp e
    obtain ⟨e2, e3⟩ := List.getElem?_zip_eq_some.mp e1
    obtain ⟨v1, g1, ev1, rv1, sub1, _⟩ := r1.get _ d1 e2
    obtain ⟨v2, g2, ev2, rv2, sub2, _⟩ := r1'.get _ d2 e3
    refine ⟨⟨us, ws, v1, v2, rd1, rd2, ev1, ev2⟩, fun x H2 hy => ?_⟩
    obtain ⟨T, x0, y0, rfl, hT, rfl, hx, hy⟩ := hy
    have q1 := hx us rd1
    rw [ev1] at q1; cases q1
    have q2 := hy ws rd2
    rw [ev2] at q2; cases q2
    have e4 := same_upd (o := .tup [v1, v2]) hT
    refine ⟨e4, g1 ++ g2, RpL.tup1 (.inl upd_same) ((rv1.same e4).cons1 (rv2.same e4)), ?_⟩
    have subg : ∀ x ∈ g1 ++ g2, x ∈ g ++ g' := fun x hx => (List.mem_append.mp hx).elim (fun h => List.mem_append_left _ (sub1 x h)) fun h => List.mem_append_right _ (sub2 x h)
    rcases kk with ⟨k1, k2⟩ | ⟨rfl, kk⟩ | ⟨rfl, kk⟩
    · subst k1 k2
      have : g1 ++ g2 = [] := by
        cases q : g1 ++ g2 with
        | nil => rfl
        | cons y _ => exact absurd (subg y (by rw [q]; exact List.mem_cons_self)) (by simp)
      rw [this]
      exact ⟨fun _ => rfl, KdN.nil _⟩
    · exact ⟨(fun z => by cases z), fun x hx => s.s1 x (kk x (subg x hx))⟩
    · exact ⟨(fun z => by cases z), fun x hx => s.n1 x (kk x (subg x hx))⟩
  · refine ⟨us, ws, rd1, rd2, ?_⟩
    unfold zipD at hi
    rw [List.length_map, List.length_zip] at hi
    rw [r.length, r'.length]
    omega
def zipF (im : Bool) : List D → Option (R (List D))
  | [.lst ds, .lst es] => if !im || (immL ds && immL es) then some (.ok (zipD ds es)) else none
  | _ => none
def XI.zip (im : Bool) (as : XA) : XI where
  t p := iZip p.cm.K (as.t p)
  f env := bLI (as.f env) (zipF im)
  mo ms := moI im false (as.mo ms)
  ok p ms kd ms' hm Z H σ env OW R E hP := by
    cases ha : as.mo ms with
    | none => rw [ha] at hm; cases hm
    | some km =>
      obtain ⟨k, m1⟩ := km
      rw [ha] at hm
      refine XA.itm as ha E hP fun d v H1 f1 Z1 OW1 _ e1 s1 E1 r1 K1 hP1 => ?_
      unfold zipF at hP1
      split at hP1
      · next ds es _ =>
        split at hP1
        · next c =>
          have tr1 := r1.trk
          obtain ⟨v1, w1, g1, g2, rfl, rfl, t1, rr⟩ := r1.cons_of
          obtain ⟨v2, w2, g3, g4, rfl, rfl, t2, rr⟩ := rr.cons_of
          obtain ⟨rfl, rfl⟩ := rr.nil_of
          obtain ⟨a', us, g, rfl, rd, ra, rfl⟩ := t1.lst_of
          obtain ⟨b', ws, g', rfl, rd', rb, rfl⟩ := t2.lst_of
          obtain ⟨Z2, s2, E2, rfl, nn, na, k1, k2⟩ := walkKd (p := p) E1 s1 K1 tr1 hm
          have kn : k ≠ .any := fun z => Bool.false_ne_true (na z).2
          have m1 : ∀ x ∈ a' :: g, x ∈ (a' :: g) ++ ((b' :: g') ++ []) := fun x hx => List.mem_append_left _ hx
          have m2 : ∀ x ∈ b' :: g', x ∈ (a' :: g) ++ ((b' :: g') ++ []) := fun x hx => List.mem_append_right _ (List.mem_append_left _ hx)
          have mm : ∀ x ∈ g ++ g', x ∈ (a' :: g) ++ ((b' :: g') ++ []) := fun x hx => (List.mem_append.mp hx).elim (fun h => m1 x (List.mem_cons_of_mem _ h)) fun h => m2 x (List.mem_cons_of_mem _ h)
          refine ⟨a', b', us, ws, rfl, .inl rd, .inl rd', hP1 _ H1 Z2 OW1 e1 s2 E2 (itOk_zip (K := p.cm.K) (a := a') (b := b') E2.wr ra rb (fun x hx => nn kn x (m1 x (List.mem_cons_of_mem _ hx))) (fun x hx => nn kn x (m2 x (List.mem_cons_of_mem _ hx))) ?_ (.inl ⟨rd, nn kn a' (m1 a' List.mem_cons_self)⟩) (.inl ⟨rd', nn kn b' (m2 b' List.mem_cons_self)⟩))⟩
          cases im with
          | true =>
            have c' : immL ds = true ∧ immL es = true := by simpa using c
            exact .inl ⟨ra.imm c'.1, rb.imm c'.2⟩
          | false =>
            rcases k2 rfl with ⟨q1, q2⟩ | ⟨q1, q2⟩
            · exact .inr (.inl ⟨q1, fun x hx => q2 x (mm x hx)⟩)
            · exact .inr (.inr ⟨q1, fun x hx => q2 x (mm x hx)⟩)
        · exact hP1.elim
      · exact hP1.elim
end DL
namespace DL
open PySem PySem.Spec PyProof.Rows L2
theorem hu1 {k : Nat} {A : Around} (hr : Room k A) : A.units + 1 < cLine := by have := hr.un; omega
theorem mt_indexK {X : Cx} (K : PySem.W.Frag) (hu : X.A.units + 65 < cLine) (h : X.K = K := by rfl) : MtR X "list.index" (rIndexD K) := h ▸ mt_indexD hu
theorem t_of_eq {t t' : TS} (h : t = t') : ∀ D σ H, t D σ H → t' D σ H := fun _ _ _ q => h ▸ q
theorem pe_bmK {X : Cx} (K : PySem.W.Frag) {o e : Expr} {es : List Expr} {to : TE} {t : TA} {name : Str} {apos cpos : Pos} {T id : String} {r : V → List V → Hp → VK → Prop} (pa : PlainAttrs T) (slot : Slot T name id) (hty : typeOf (.builtin id) = pure (.type "method_descriptor")) (hm : MtR X id r) (ho : PE X o to) (ha : PA X (e :: es) t) (h : X.K = K := by rfl)
    (hbase : attributeBase o name X.env (eval o X.env) = eval o X.env := by rfl)
    (hfew : ((backTo cpos (starEach (e :: es) X.env)).all (fun x => !x.1) && (backToKw cpos (keywordEach [] X.env)).all (fun x => x.1.isSome)
      && decide ((e :: es).length + ([] : List Keyword).length + (if ([] : List Keyword).isEmpty then 0 else 1) < 30)) = true := by rfl)
    (hline : (apos.endLine == cpos.line) = true := by rfl) (hs : starEach (e :: es) X.env = (false, eval e X.env) :: starEach es X.env := by rfl) (hplain : (backTo cpos (starEach es X.env)).any (·.1) = false := by rfl) :
    PE X (.Call (.Attribute o name apos) (e :: es) [] cpos) (tBM K T r to t) := h ▸ pe_bm pa slot hty hm ho ha hbase hfew hline hs hplain
end DL
set_option maxRecDepth 100000
namespace DL
open PySem PySem.Spec PyProof.Rows L2
theorem loop_okM {p : Pm} {c : Cm} {m1 : List M} {kb : Option (List M)} {Z1 Z' : Zn} {OW1 OW2 : List Addr} {H1 H2 : Hp} {o : Option Out} {next : EnvD → Option Out} {l : List Nat} {En : Ends} {N : L2.St → Hp → Prop}
    (hp : PoS p c (some m1) Z1 H1 OW1 (loopK o next l) En) (fr2 : Fr OW1 H1 H2) (st2 : Stp Z1 OW1 H1 Z' OW2 H2) (hl : allDead l m1 = true) (hw : ∀ m3, kb = some m3 → wk m3 m1 = true)
    (hN : ∀ σ3 H3 Z3 OW3 env3, Fr OW2 H2 H3 → Stp Z' OW2 H2 Z3 OW3 H3 → ER p.cm m1 Z3 H3 σ3 env3 OW3 → PoS p c (some m1) Z1 H1 OW1 (next env3) En → N σ3 H3) :
    PoS p { c with mb := m1, mc := m1 } kb Z' H2 OW2 o { En with nx := N, ct := N, bk := En.nx } := by
  have hp2 := PoS.after hp fr2 st2
  cases o with
  | none => exact hp2.elim
  | some o =>
    cases o with
    | nx env'' =>
      intro m3 q3 σ3 H3 Z3 OW3 fr3 st3 E3
      obtain ⟨Z4, OW4, E4, st4⟩ := E3.weak (hw m3 q3)
      exact hN σ3 H3 Z4 OW4 (killE l env'') fr3 (st3.trans st4) (ER.killE l E4 hl) hp
    | ct env'' =>
      intro σ3 H3 Z3 OW3 fr3 st3 E3
      exact hN σ3 H3 Z3 OW3 (killE l env'') fr3 st3 (ER.killE l E3 hl) hp
    | bk env'' =>
      intro σ3 H3 Z3 OW3 fr3 st3 E3
      exact hp2 m1 rfl σ3 H3 Z3 OW3 fr3 st3 (ER.killE l E3 hl)
    | rt d => exact hp2
    | ex cl pl env'' => exact hp2
/-- for x in xs: xs is given up, each item is x's own -/
def XS.forown (i : Nat) (g : XG) (body : XS) (l : List Nat) : XS where
  t p := tFor (iSeq p.cm.K (tVar i)) (g.t p) (body.t p)
  f env := match eget env i with
    | some (.ok (.lst ds)) => forD g.f body.f l ds env
    | _ => none
  mo c ms := if ms[i]? = some .own ∧ moFor g body l c .own (ms.set i .dead) = true then some (some (ms.set i .dead)) else none
  ok p c ms k hm Z H σ env OW En E hP := by
    split at hm
    case isFalse => cases hm
    next hc =>
    cases hm
    obtain ⟨hown, hc⟩ := hc
    obtain ⟨v, d, f, OW1, e1, e2, r, s', z1, z2, z3⟩ := E.sl.move i hown
    obtain ⟨n1, n2, n3⟩ := z3 E.nd
    have eg : eget env i = some (.ok d) := by unfold eget; rw [e2]
    rw [eg] at hP
    cases d with
    | lst ds =>
      have hP : PoS p c (some (ms.set i .dead)) Z H OW (forD g.f body.f l ds env) En := hP
      obtain ⟨a, us, ga, rfl, rd, rr, rfl⟩ := r.lst_of
      have E1 : ER p.cm (ms.set i .dead) Z H σ env OW1 := ⟨s', n2, fun x hx => E.wr x (z2 x hx), fun x hx => E.dis x (z2 x hx), E.tr, E.sub⟩
      obtain ⟨hl, m2, kb, hg, hb, hw⟩ := moFor_of hc
      refine ⟨.ref a, e1, a, rfl, .inl ⟨⟨us, .inl rd⟩, ?_⟩⟩
      have aO : a ∈ OW := z1 a List.mem_cons_self
      refine ⟨fun k m σ' H' => m = ds.length - k ∧ k ≤ ds.length ∧ ∃ Z' OW' env' gr, Fr OW H H' ∧ Stp Z OW H Z' OW' H' ∧ ER p.cm (ms.set i .dead) Z' H' σ' env' OW' ∧ Rd H' a (.lst us) ∧ a ∉ OW' ∧ RpL p.cm H' (us.drop k) (ds.drop k) gr ∧ gr.Nodup ∧
          (∀ x ∈ gr, x ∉ OW' ∧ ¬ Z'.n x ∧ WrA H' x ∧ x ∈ OW ∧ x ≠ a) ∧ PoS p c (some (ms.set i .dead)) Z H OW (forD g.f body.f l (ds.drop k) env') En,
        ⟨ds.length, by simp, Nat.zero_le _, Z, OW1, env, ga, (fun _ _ h _ => h), ⟨fun x hx => .inl (z2 x hx), fun _ h => h, fun _ h => h, fun _ h => .inl h, fun _ h => .inl h, fun _ h => h⟩, E1, rd, n3 a List.mem_cons_self, rr, (List.nodup_cons.mp n1).2,
          (fun x hx => ⟨n3 x (List.mem_cons_of_mem _ hx), E.dis x (z1 x (List.mem_cons_of_mem _ hx)), E.wr x (z1 x (List.mem_cons_of_mem _ hx)), z1 x (List.mem_cons_of_mem _ hx), fun z => (List.nodup_cons.mp n1).1 (z ▸ hx)⟩), hP⟩, ?_⟩
      rintro k m σ' H' ⟨rfl, hk, Z', OW', env', gr, fr, st, E', rd', na', rr', nd', hx', hp⟩
      by_cases hlt : k < ds.length
      · right
        rw [List.drop_eq_getElem_cons hlt] at hp rr'
        obtain ⟨u, us', g1, g2, eu, rfl, ru, rr2⟩ := rr'.cons_of
        have eu0 : us[k]? = some u := by
          have := congrArg (·[0]?) eu
          simpa using this
        have eu1 : us.drop (k + 1) = us' := by
          have h : (us.drop k).drop 1 = us' := by rw [eu]; rfl
          rwa [List.drop_drop] at h
        refine ⟨⟨us, u, .inl rd', eu0⟩, fun σ'' H'' => ds.length - (k + 1) = ds.length - (k + 1) ∧ k + 1 ≤ ds.length ∧ ∃ Z' OW' env' gr, Fr OW H H'' ∧ Stp Z OW H Z' OW' H'' ∧ ER p.cm (ms.set i .dead) Z' H'' σ'' env' OW' ∧ Rd H'' a (.lst us) ∧ a ∉ OW' ∧ RpL p.cm H'' (us.drop (k + 1)) (ds.drop (k + 1)) gr ∧ gr.Nodup ∧
          (∀ x ∈ gr, x ∉ OW' ∧ ¬ Z'.n x ∧ WrA H'' x ∧ x ∈ OW ∧ x ≠ a) ∧ PoS p c (some (ms.set i .dead)) Z H OW (forD g.f body.f l (ds.drop (k + 1)) env') En, fun σ'' H'' hN => ⟨ds.length - (k + 1), by omega, hN⟩, fun x H2 hy => ?_⟩
        obtain ⟨rfl, hy⟩ := hy
        have hxu := hy us (.inl rd')
        rw [eu0] at hxu
        cases hxu
        have hp' : PoS p c (some (ms.set i .dead)) Z H OW (match g.f ds[k] env' with
          | none => none
          | some e1 => loopK (body.f e1) (fun e => forD g.f body.f l (ds.drop (k + 1)) e) l) En := hp
        cases qb : g.f ds[k] env' with
        | none => rw [qb] at hp'; exact hp'.elim
        | some ev =>
          rw [qb] at hp'
          obtain ⟨nd1, nd2, nd12⟩ := List.nodup_append.mp nd'
          have K1 : KdN .own Z' OW' H2 g1 := ⟨nd1, fun x hx => ⟨(hx' x (List.mem_append_left _ hx)).1, (hx' x (List.mem_append_left _ hx)).2.1, (hx' x (List.mem_append_left _ hx)).2.2.1⟩⟩
          refine g.ok p .own _ m2 hg Z' H2 σ' env' OW' u ds[k] g1 ev _ E' qb ru K1 fun σ2 OW2 E2 so _ => ?_
          have so' : ∀ x ∈ OW2, x ∈ OW' ∨ x ∈ g1 := fun x hx => (so x hx).imp id And.right
          have st2 : Stp Z OW H Z' OW2 H2 := ⟨fun x hx => (so' x hx).elim (st.ow x) fun h => .inl (hx' x (List.mem_append_left _ h)).2.2.2.1, st.n1, st.s1, st.n2, st.s2, st.gro⟩
          have na2 : a ∉ OW2 := fun z => (so' a z).elim na' fun h => (hx' a (List.mem_append_left _ h)).2.2.2.2 rfl
          have ng2 : ∀ x ∈ g2, x ∉ OW2 := fun x hx z => (so' x z).elim (hx' x (List.mem_append_right _ hx)).1 fun h => nd12 x h x hx rfl
          refine body.ok p { c with mb := ms.set i .dead, mc := ms.set i .dead } m2 kb hb Z' H2 σ2 ev OW2 _ E2 ?_
          refine loop_okM hp' fr st2 hl hw fun σ3 H3 Z3 OW3 env3 f3 s3 E3 p3 => ⟨rfl, hlt, Z3, OW3, env3, g2, Fr.trans fr st2 f3, st2.trans s3, E3, rd_later f3 rd' na2, fun z => ?_, by rw [eu1]; exact rr2.later f3 ng2 E2.wr, nd2, fun x hx => ?_, p3⟩
          · rcases s3.ow a z with w | w
            · exact na2 w
            · exact Rd.some rd' w
          · obtain ⟨h1, h2, h3, h4, h5⟩ := hx' x (List.mem_append_right _ hx)
            have hnn : H2 x ≠ none := by
              obtain ⟨u, q, _⟩ := h3
              rw [q]; intro z; cases z
            refine ⟨fun z => ?_, fun z => ?_, ?_, h4, h5⟩
            · rcases s3.ow x z with w | w
              · exact ng2 x hx w
              · exact hnn w
            · rcases s3.n2 x z with w | w | w
              · exact h2 w
              · exact ng2 x hx w
              · exact hnn w
            · obtain ⟨u, q, w⟩ := h3
              exact ⟨u, f3 x u q (ng2 x hx), w⟩
      · left
        have e : k = ds.length := by omega
        subst e
        rw [List.drop_length] at hp
        exact ⟨⟨us, .inl rd', by rw [rr.length]; exact Nat.le_refl _⟩, hp _ rfl σ' H' Z' OW' fr st E'⟩
    | _ => exact hP.elim
end DL
set_option maxRecDepth 100000
namespace DL
open PySem PySem.Spec PyProof.Rows L2
/-! ### what is never reached -/
def XS.nev : XS where
  t _ := fun _ _ _ => False
  f _ := none
  mo _ _ := some none
  ok p c ms k hm Z H σ env OW En E hP := hP.elim
theorem ps_nev {X : Cx} {st : Stmt} : PS X st (fun _ _ _ => False) := ⟨fun _ _ _ _ _ _ h => h.elim⟩
/-! ### equal values, dicts among them -/
def EqT (K : PySem.W.Frag) (H : Hp) : Nat → V → V → Prop
  | 0, x, y => ∃ d e, Dp K H x d ∧ Dp K H y e ∧ SeqAt.shaped d = true ∧ SeqAt.shaped e = true ∧ PyData.eqv d e = true
  | n + 1, x, y => EqT K H n x y ∨ (∃ p q xs ys, x = .ref p ∧ y = .ref q ∧ Rd H p (.lst xs) ∧ Rd H q (.lst ys) ∧ xs.length = ys.length ∧ ∀ (j : Nat) u w, xs[j]? = some u → ys[j]? = some w → EqT K H n u w) ∨
    ∃ p q ks ls, x = .ref p ∧ y = .ref q ∧ Rd H p (.dK ks) ∧ Rd H q (.dK ls) ∧ ks.length = ls.length ∧ ∀ k u, (k, u) ∈ ks → ∃ w, valV ls k = some w ∧ EqT K H n u w
theorem tree_mono {prog : Program} {w : World} {s : Shared} {n : Nat} {v y : Value} {b : Bool} (t : PySem.W.EqTree prog w s n v y b) : PySem.W.EqTree prog w s (n + 1) v y b := by
  induction t with
  | leaf h => exact .leaf fun A hu => h A (by omega)
  | same => exact .same
  | lists a b c d _ ih => exact .lists a b c d ih
  | listsLen a b c d => exact .listsLen a b c d
  | tuples a b c _ ih => exact .tuples a b c ih
  | dicts a b c d e _ ih => exact .dicts a b c d e ih
section
variable {X : Cx} {pins : List (Addr × Obj)} {σ : L2.St} {H : Hp} {s : Shared}
theorem room_shaped {n : Nat} {d e : PyData} (h : SeqAt.shaped d = true) (hu : n + 64 < cLine) : n + min d.depth e.depth < cLine := by
  unfold SeqAt.shaped at h
  rw [Bool.and_eq_true] at h
  have := of_decide_eq_true h.2
  omega
theorem canLay_shaped {d : PyData} (h : SeqAt.shaped d = true) : d.canLay0 = true := SeqAt.canLay_of_shaped h
theorem kv_mem {ks : List (Key × V)} {va : List (Key × Value)} (r : KV ks va) {k : Key} {v : Value} (h : (k, v) ∈ va) : ∃ u, (k, u) ∈ ks ∧ RelV u v := by
  unfold KV at r
  induction r with
  | nil => cases h
  | @cons p q ps qs hh t ih =>
    rcases List.mem_cons.mp h with e | h
    · subst e
      refine ⟨p.2, ?_, hh.2⟩
      have e : p.1 = k := hh.1
      rw [← e]
      exact List.mem_cons_self
    · obtain ⟨u, a, b⟩ := ih h
      exact ⟨u, List.mem_cons_of_mem _ a, b⟩
theorem dict_all {ka kb : List (Key × Value)} (hl : ka.length = kb.length) (h : ∀ k v, (k, v) ∈ ka → ∃ y, valueAt kb k = some y) : (ka.length == kb.length && ka.all fun p => (valueAt kb p.1).isSome && true) = true := by
  rw [Bool.and_eq_true, List.all_eq_true]
  refine ⟨by simp [hl], fun p hp => ?_⟩
  obtain ⟨y, hy⟩ := h p.1 p.2 hp
  rw [hy]; rfl
theorem EqT.tree (I : Inv X pins σ H s) : ∀ (n : Nat) (x y : V) (u v : Value), EqT X.K H n x y → RelV x u → RelV y v → PySem.W.EqTree X.prog X.w s (64 + n) u v true
  | 0, x, y, u, v, h, rx, ry => by
    obtain ⟨d, e, hd, he, sd, se, q⟩ := h
    obtain ⟨as, r1⟩ := Dp.reads I d x u hd rx
    obtain ⟨bs, r2⟩ := Dp.reads I e y v he ry
    refine .leaf fun A hu => ?_
    have := SeqAt.eqAt_reads d e A s u v as bs r1 r2 (canLay_shaped sd) (canLay_shaped se) (room_shaped sd hu)
    rw [q] at this
    exact this
  | n + 1, x, y, u, v, h, rx, ry => by
    rcases h with h | ⟨p, q, xs, ys, rfl, rfl, hp, hq, hl, hj⟩ | ⟨p, q, ks, ls, rfl, rfl, hp, hq, hl, hj⟩
    · exact tree_mono (EqT.tree I n x y u v h rx ry)
    · obtain rfl : u = Value.ref p := rx
      obtain rfl : v = Value.ref q := ry
      by_cases e : p = q
      · subst e; exact .same
      obtain ⟨its, r1, hp1, _⟩ := I.list (.inl hp)
      obtain ⟨jts, r2, hp2, _⟩ := I.list (.inl hq)
      have l1 := r1.length
      have l2 := r2.length
      obtain ⟨o1, n1, a1, b1, _, c1⟩ := hp1
      obtain ⟨o2, n2, a2, b2, _, c2⟩ := hp2
      have t := PySem.W.EqTree.lists (prog := X.prog) (w := X.w) (s := s) (n := 64 + n) (e := fun _ => true) e ⟨o1, a1, b1, n1, c1⟩ ⟨o2, a2, b2, n2, c2⟩ (by simp; omega) (fun j h1 h2 => by
        simp at h1 h2
        obtain ⟨x', hx'⟩ : ∃ x', xs[j]? = some x' := ⟨xs[j]'(by omega), by rw [List.getElem?_eq_getElem]⟩
        obtain ⟨y', hy'⟩ : ∃ y', ys[j]? = some y' := ⟨ys[j]'(by omega), by rw [List.getElem?_eq_getElem]⟩
        obtain ⟨u', hu', ru⟩ := r1.get hx'
        obtain ⟨v', hv', rv⟩ := r2.get hy'
        have e1 : its.toArray[j]'(by simpa using h1) = u' := by
          have := List.getElem?_eq_getElem h1
          rw [hu'] at this
          simpa using this.symm
        have e2 : jts.toArray[j]'(by simpa using h2) = v' := by
          have := List.getElem?_eq_getElem h2
          rw [hv'] at this
          simpa using this.symm
        rw [e1, e2]
        exact EqT.tree I n x' y' u' v' (hj j x' y' hx' hy') ru rv)
      have ea : ((List.range its.toArray.size).all fun _ => true) = true := by simp
      rw [ea] at t
      exact t
    · obtain rfl : u = Value.ref p := rx
      obtain rfl : v = Value.ref q := ry
      by_cases e : p = q
      · subst e; exact .same
      obtain ⟨_, ya, va, ra, da⟩ := dk_rd I.hok hp
      obtain ⟨_, yb, vb, rb, db⟩ := dk_rd I.hok hq
      have t := PySem.W.EqTree.dicts (knd := mixKind X.prog X.w) (n := 64 + n) (e := fun _ => true) e ya yb da db (fun k v y hm hv => by
        obtain ⟨u', hu', ru⟩ := kv_mem ra hm
        obtain ⟨w', hw', et⟩ := hj k u' hu'
        have rr : RelO (some w') (valueAt vb k) := by rw [← hw']; exact rb.val k
        obtain ⟨y', hy', ry'⟩ := rr.some_of
        rw [hy'] at hv; cases hv
        exact EqT.tree I n u' w' v y et ru ry')
      have ea := dict_all (ka := va) (kb := vb) (by rw [← ra.length, ← rb.length]; exact hl) (fun k v hm => by
        obtain ⟨u', hu', ru⟩ := kv_mem ra hm
        obtain ⟨w', hw', _⟩ := hj k u' hu'
        have rr : RelO (some w') (valueAt vb k) := by rw [← hw']; exact rb.val k
        obtain ⟨y', hy', _⟩ := rr.some_of
        exact ⟨y', hy'⟩)
      rw [ea] at t
      exact t
def rEqT (K : PySem.W.Frag) : R2 := fun x y H Q => EqT K H 3 x y ∧ Q (.bl true) H
theorem op_eqT0 (hu : X.A.units + 70 < cLine) : OpR X (compareOp .Eq) (rEqT X.K) := by
  intro pins s σ H x y v u Q I rx ry h
  obtain ⟨h, q⟩ := h
  have gen : ∀ n, n ≤ 3 → ∀ x y, RelV x v → RelV y u → EqT X.K H n x y → wpAny (model X.prog X.w) X.A (compareOp .Eq v u) (EP X pins σ Q) X.xe s := by
    intro n
    induction n with
    | zero =>
      intro _ x y rx ry h
      obtain ⟨d, e, hd, he, sd, se, q'⟩ := h
      obtain ⟨as, r1⟩ := Dp.reads I d x v hd rx
      obtain ⟨bs, r2⟩ := Dp.reads I e y u he ry
      exact SeqAt.compareEq_shaped r1 r2 sd se (by omega) ⟨.bl true, H, I, by rw [q']; rfl, q⟩
    | succ n ih =>
      intro hn x y rx ry h
      rcases h with h | ⟨p, p', xs, ys, rfl, rfl, hp, hq, hl, hj⟩ | ⟨p, p', ks, ls, rfl, rfl, hp, hq, hl, hj⟩
      · exact ih (by omega) x y rx ry h
      · obtain rfl : v = Value.ref p := rx
        obtain rfl : u = Value.ref p' := ry
        obtain ⟨its, r1, hp1, _⟩ := I.list (.inl hp)
        obtain ⟨jts, r2, hp2, _⟩ := I.list (.inl hq)
        have l1 := r1.length
        have l2 := r2.length
        obtain ⟨o1, n1, a1, b1, _, c1⟩ := hp1
        obtain ⟨o2, n2, a2, b2, _, c2⟩ := hp2
        refine PySem.W.eq_listsT (n := 64 + n) (e := fun _ => true) ⟨o1, a1, b1, n1, c1⟩ ⟨o2, a2, b2, n2, c2⟩ (by simp; omega) (fun j h1 h2 => by
          simp at h1 h2
          obtain ⟨x', hx'⟩ : ∃ x', xs[j]? = some x' := ⟨xs[j]'(by omega), by rw [List.getElem?_eq_getElem]⟩
          obtain ⟨y', hy'⟩ : ∃ y', ys[j]? = some y' := ⟨ys[j]'(by omega), by rw [List.getElem?_eq_getElem]⟩
          obtain ⟨u', hu', ru⟩ := r1.get hx'
          obtain ⟨v', hv', rv⟩ := r2.get hy'
          have e1 : its.toArray[j]'(by simpa using h1) = u' := by
            have := List.getElem?_eq_getElem h1
            rw [hu'] at this
            simpa using this.symm
          have e2 : jts.toArray[j]'(by simpa using h2) = v' := by
            have := List.getElem?_eq_getElem h2
            rw [hv'] at this
            simpa using this.symm
          rw [e1, e2]
          exact EqT.tree I n x' y' u' v' (hj j x' y' hx' hy') ru rv) (by omega) ?_
        have ea : ((List.range its.toArray.size).all fun _ => true) = true := by simp
        rw [ea]
        exact ⟨.bl true, H, I, rfl, q⟩
      · obtain rfl : v = Value.ref p := rx
        obtain rfl : u = Value.ref p' := ry
        obtain ⟨_, ya, va, ra, da⟩ := dk_rd I.hok hp
        obtain ⟨_, yb, vb, rb, db⟩ := dk_rd I.hok hq
        refine PySem.W.eq_dictsT (knd := mixKind X.prog X.w) (n := 64 + n) (e := fun _ => true) ya yb da db (fun k v y hm hv => by
          obtain ⟨u', hu', ru⟩ := kv_mem ra hm
          obtain ⟨w', hw', et⟩ := hj k u' hu'
          have rr : RelO (some w') (valueAt vb k) := by rw [← hw']; exact rb.val k
          obtain ⟨y', hy', ry'⟩ := rr.some_of
          rw [hy'] at hv; cases hv
          exact EqT.tree I n u' w' v y et ru ry') (by omega) ?_
        have ea := dict_all (ka := va) (kb := vb) (by rw [← ra.length, ← rb.length]; exact hl) (fun k v hm => by
          obtain ⟨u', hu', ru⟩ := kv_mem ra hm
          obtain ⟨w', hw', _⟩ := hj k u' hu'
          have rr : RelO (some w') (valueAt vb k) := by rw [← hw']; exact rb.val k
          obtain ⟨y', hy', _⟩ := rr.some_of
          exact ⟨y', hy'⟩)
        rw [ea]
        exact ⟨.bl true, H, I, rfl, q⟩
  exact gen 3 (Nat.le_refl _) x y rx ry h
end
theorem op_eqTK {X : Cx} (K : PySem.W.Frag) (hu : X.A.units + 70 < cLine) (h : X.K = K := by rfl) : OpR X (compareOp .Eq) (rEqT K) := h ▸ op_eqT0 hu
theorem hu70 {k : Nat} {A : Around} (hr : Room k A) : A.units + 70 < cLine := by have := hr.un; omega
/-! ### the same of data -/
def eqTD : Nat → D → D → Bool
  | 0, x, y => match toPy x, toPy y with
    | some u, some w => SeqAt.shaped u && (SeqAt.shaped w && PyData.eqv u w)
    | _, _ => false
  | n + 1, x, y => eqTD n x y || match x, y with
    | .lst xs, .lst ys => decide (xs.length = ys.length) && (xs.zip ys).all fun p => eqTD n p.1 p.2
    | .dct ks, .dct ls => decide (ks.length = ls.length) && ks.all fun p => match valD ls p.1 with
      | some y => eqTD n p.2 y
      | none => false
    | _, _ => false
theorem eqTD_rp {cm : CM} {H : Hp} : ∀ (n : Nat) (x y : D) (v w : V) (f g : List Addr), RpL cm H [v] [x] f → RpL cm H [w] [y] g → eqTD n x y = true → EqT cm.K H n v w
  | 0, x, y, v, w, f, g, r1, r2, h => by
    unfold eqTD at h
    split at h
    · next u z q1 q2 =>
      rw [Bool.and_eq_true, Bool.and_eq_true] at h
      exact ⟨u, z, r1.dp q1, r2.dp q2, h.1, h.2.1, h.2.2⟩
    · cases h
  | n + 1, x, y, v, w, f, g, r1, r2, h => by
    unfold eqTD at h
    rw [Bool.or_eq_true] at h
    rcases h with h | h
    · exact .inl (eqTD_rp n x y v w f g r1 r2 h)
    split at h
    · next xs ys =>
      rw [Bool.and_eq_true] at h
      have hl := of_decide_eq_true h.1
      obtain ⟨a, us, f1, rfl, rd, rr, _⟩ := r1.lst_of
      obtain ⟨b, ws, g1, rfl, rd2, rr2, _⟩ := r2.lst_of
      refine .inr (.inl ⟨a, b, us, ws, rfl, rfl, rd, rd2, by rw [rr.length, rr2.length]; exact hl, fun j u z hu hz => ?_⟩)
      have ju : j < us.length := (List.getElem?_eq_some_iff.mp hu).1
      have j1 : j < xs.length := by rw [← rr.length]; exact ju
      have j2 : j < ys.length := by omega
      obtain ⟨u', f', e1, q1, _⟩ := rr.get j xs[j] (by rw [List.getElem?_eq_getElem j1])
      obtain ⟨z', g', e2, q2, _⟩ := rr2.get j ys[j] (by rw [List.getElem?_eq_getElem j2])
      rw [hu] at e1; cases e1
      rw [hz] at e2; cases e2
      refine eqTD_rp n _ _ _ _ _ _ q1 q2 ?_
      have := List.all_eq_true.mp h.2 (xs[j], ys[j]) (by
        rw [List.mem_iff_getElem]
        exact ⟨j, by rw [List.length_zip]; omega, by rw [List.getElem_zip]⟩)
      exact this
    · next ks ls =>
      rw [Bool.and_eq_true] at h
      have hl := of_decide_eq_true h.1
      obtain ⟨a, us, f1, rfl, rd, ee, rr⟩ := r1.dct_later
      obtain ⟨b, ws, g1, rfl, rd2, ee2, rr2⟩ := r2.dct_later
      have l1 : us.length = ks.length := keys_len ee
      have l2 : ws.length = ls.length := keys_len ee2
      refine .inr (.inr ⟨a, b, us, ws, rfl, rfl, rd, rd2, by omega, fun k u hm => ?_⟩)
      obtain ⟨j, hj, e⟩ := List.mem_iff_getElem.mp hm
      have j1 : j < ks.length := by omega
      obtain ⟨u', f', e1, q1, _⟩ := rr.get j ks[j].2 (by rw [List.getElem?_map, List.getElem?_eq_getElem j1]; rfl)
      rw [List.getElem?_map, List.getElem?_eq_getElem hj, e] at e1
      have e1 : some u = some u' := e1
      cases e1
      have hk : ks[j].1 = k := by
        have h1 : (us.map (·.1))[j]? = (ks.map (·.1))[j]? := by rw [ee]
        rw [List.getElem?_map, List.getElem?_map, List.getElem?_eq_getElem hj, List.getElem?_eq_getElem j1, e] at h1
        have h1 : some k = some ks[j].1 := h1
        injection h1 with h1
        exact h1.symm
      have := List.all_eq_true.mp h.2 ks[j] (List.getElem_mem j1)
      rw [hk] at this
      split at this
      · next y' hv =>
        obtain ⟨w', g', e3, q3, _⟩ := (valD_rp (k := k) ee2 rr2).2 y' hv
        exact ⟨w', e3, eqTD_rp n _ _ _ _ _ _ q1 q3 this⟩
      · cases this
    · cases h
def eqTF (x y : D) : Option (R D) := if eqTD 3 x y = true then some (.ok (.bl true)) else none
def XE.eqt (a b : XE) : XE where
  t p := tOp (rEqT p.cm.K) (a.t p) (b.t p)
  f env := b2 (a.f env) (b.f env) eqTF
  mo ms := match moTwo a b ms with
    | some (_, _, m2) => some (.own, m2)
    | none => none
  ok p ms k ms' hm Z H σ env OW Q E hP := by
    split at hm
    · next k1 k2 m2 e =>
      cases hm
      obtain ⟨m1, h1, h2⟩ := moTwo_of e
      refine XE.two a b h1 h2 E hP fun d1 d2 v1 v2 H2 f1 f2 Z2 OW2 _ _ e2 s2 E2 r1 r2 _ _ _ hP2 => ?_
      unfold eqTF at hP2
      split at hP2
      · next hs =>
        exact ⟨eqTD_rp 3 d1 d2 v1 v2 f1 f2 r1 r2 hs, hP2 _ H2 [] Z2 OW2 e2 s2 E2 (RpL.at rfl) (KdOk.nil _)⟩
      · exact hP2.elim
    · cases hm
/-! ### != of dicts that are equal -/
def rNeR : R2 := fun x y H Q => ∃ a b ks ls, x = .ref a ∧ y = .ref b ∧ Rd H a (.dK ks) ∧ Rd H b (.dK ls) ∧ ks.length = ls.length ∧ (∀ p ∈ ks, valV ls p.1 = some p.2 ∧ flatB p.2 = true) ∧ Q (.bl false) H
theorem op_neR {X : Cx} (hu : X.A.units + 1 < cLine) : OpR X (compareOp .NotEq) rNeR := by
  intro pins s σ H x y v u Q I rx ry h
  obtain ⟨a, b, ks, ls, rfl, rfl, ea, eb, hlen, hp, q⟩ := h
  obtain rfl : v = Value.ref a := rx
  obtain rfl : u = Value.ref b := ry
  obtain ⟨_, ya, va, ra, da⟩ := dk_rd I.hok ea
  obtain ⟨_, yb, vb, rb, db⟩ := dk_rd I.hok eb
  have hl : va.length = vb.length := by rw [← ra.length, ← rb.length]; exact hlen
  exact PySem.W.keq_ne (knd := mixKind X.prog X.w) (r := true) ya yb da db (by omega) (fun _ => hits_all rb ra hp) (fin_bl I q (by simp [hl]))
end DL
set_option maxRecDepth 100000
namespace DL
section
open PySem PySem.Spec PySem.SeqAt
open AutoSeq1 (wpAny_loadPart')
open MeetsSeq MeetsSeq2 MeetsSeq3 SeqRoads2
variable {prog : Program} {w : World}
/-- xs != ys, walked, where each two items are equal -/
theorem neSame_loop (p q : Addr) (xs ys : Array Value) (m m2 : Nat) (dp dq : Option Addr) (sp sq : Array (Option Value)) (same : xs.size = ys.size) (left : Nat) :
    ∀ at_ : Nat, xs.size - at_ = left → MeetsIn prog w (Builtin.«list.__eq__.loop» ⟨[.ref p, .ref q, rawInt at_, rawInt 3], []⟩)
      (fun A R s => s.heap.get? p = some { cls := .type "list", dict := dp, data := .seq xs m, slots := sp } ∧ s.heap.get? q = some { cls := .type "list", dict := dq, data := .seq ys m2, slots := sq } ∧
        (∀ j (a : j < xs.size) (b : j < ys.size), EqIn prog w A.in1 s xs[j] ys[j] true) ∧ R (.ok (.ret (.bool false))) s) := by
  induction left with
  | zero =>
    intro at_ none_left A R s h
    obtain ⟨hh, gg, dd, tt, oo⟩ := s; obtain ⟨hp, hq, eqs, done⟩ := h
    wp_walk using wpAny_loadPart' hp, wpAny_loadPart' hq
    have n1 : xs[((at_ : Nat) : Int).toNat]? = none := by simp; omega
    have n2 : ys[((at_ : Nat) : Int).toNat]? = none := by simp; omega
    rw [n1, n2]
    wp_walk using wpAny_loadPart' hp, wpAny_loadPart' hq
    show R (.ok (.ret (.bool (xs.size != ys.size)))) _
    rw [same]
    simpa using done
  | succ left ih =>
    intro at_ more A R s h
    obtain ⟨hh, gg, dd, tt, oo⟩ := s; obtain ⟨hp, hq, eqs, done⟩ := h
    wp_walk using wpAny_loadPart' hp, wpAny_loadPart' hq
    have l1 : at_ < xs.size := by omega
    have l2 : at_ < ys.size := by omega
    have n1 : xs[((at_ : Nat) : Int).toNat]? = some xs[at_] := by simp [l1]
    have n2 : ys[((at_ : Nat) : Int).toNat]? = some ys[at_] := by simp [l2]
    have up : ((at_ : Int) + 1) = ((at_ + 1 : Nat) : Int) := by push_cast; rfl
    rw [n1, n2]
    refine wpAny_bind (eqs at_ l1 l2 _ _ ?_)
    wp_walk
    rw [up]
    exact ⟨plainId_quiet plain_eq_loop _, codeAny_builtin entry_eq_loop (by
      rw [Around.under_plainId plain_eq_loop _]
      exact ih (at_ + 1) (by omega) A R _ ⟨hp, hq, eqs, done⟩)⟩
theorem neSame (p q : Addr) (xs ys : Array Value) (m m2 : Nat) (dp dq : Option Addr) (sp sq : Array (Option Value)) (same : xs.size = ys.size) :
    MeetsIn prog w (Builtin.«list.__ne__» ⟨[.ref p, .ref q], []⟩)
      (fun A R s => s.heap.get? p = some { cls := .type "list", dict := dp, data := .seq xs m, slots := sp } ∧ s.heap.get? q = some { cls := .type "list", dict := dq, data := .seq ys m2, slots := sq } ∧
        (∀ j (a : j < xs.size) (b : j < ys.size), EqIn prog w A.in1 s xs[j] ys[j] true) ∧ R (.ok (.ret (.bool false))) s) := by
  intro A R s h
  obtain ⟨hh, gg, dd, tt, oo⟩ := s; obtain ⟨hp, hq, eqs, done⟩ := h
  have lists := AutoSeq1.sub_list_list
  have sizes : ¬ (xs.size != ys.size) = true := by simp [same]
  wp_walk using wpAny_loadPart' hp, wpAny_loadPart' hq
  exact ⟨plainId_quiet plain_eq_loop _, codeAny_builtin entry_eq_loop (by
    rw [Around.under_plainId plain_eq_loop _]
    exact neSame_loop p q xs ys m m2 dp dq sp sq same _ 0 rfl A R _ ⟨hp, hq, eqs, done⟩)⟩
theorem ne_lists {A : Around} {E : Value → Shared → Prop} {s : Shared} {p q : Addr} {xs ys : Array Value} {Q : Value → Shared → Prop} (hp : s.heap.IsList p xs) (hq : s.heap.IsList q ys) (same : xs.size = ys.size) (room : A.units < cLine)
    (eqs : ∀ j (a : j < xs.size) (b : j < ys.size), EqIn prog w A.in1 s xs[j] ys[j] true) (done : Q (.bool false) s) : wpAny (model prog w) A (compareOp .NotEq (.ref p) (.ref q)) Q E s := by
  obtain ⟨⟨c1, d1, t1, z1⟩, g1, k1, m1, e1⟩ := id hp
  obtain ⟨⟨c2, d2, t2, z2⟩, g2, k2, m2, e2⟩ := id hq
  simp only at k1 e1 k2 e2
  subst k1 e1 k2 e2
  exact wpAny_richCompare_same_room (T := "list") (op := .NotEq) ⟨_, g1, rfl⟩ ⟨_, g2, rfl⟩ F.slot_list_ne (call_meetsIn F.slot_list_ne ⟨_, g1, rfl⟩ F.entry_list_ne (F.args_list_ne_2 _ _) (neSame p q xs ys m1 m2 d1 d2 z1 z2 same)
    ⟨g1, g2, eqs, show Value.bool false ≠ Value.notImplemented ∧ Q (.bool false) s from ⟨(fun x => nomatch x), done⟩⟩) room
end
open PySem PySem.Spec PyProof.Rows L2
def rNeT (K : PySem.W.Frag) : R2 := fun x y H Q => EqT K H 3 x y ∧ (∃ p q xs ys, x = .ref p ∧ y = .ref q ∧ Rd H p (.lst xs) ∧ Rd H q (.lst ys) ∧ xs.length = ys.length ∧ ∀ (j : Nat) u w, xs[j]? = some u → ys[j]? = some w → EqT K H 2 u w) ∧ Q (.bl false) H
theorem op_neT0 {X : Cx} (hu : X.A.units + 70 < cLine) : OpR X (compareOp .NotEq) (rNeT X.K) := by
  intro pins s σ H x y v u Q I rx ry h
  obtain ⟨_, ⟨p, p', xs, ys, rfl, rfl, hp, hq, hl, hj⟩, q⟩ := h
  obtain rfl : v = Value.ref p := rx
  obtain rfl : u = Value.ref p' := ry
  obtain ⟨its, r1, hp1, _⟩ := I.list (.inl hp)
  obtain ⟨jts, r2, hp2, _⟩ := I.list (.inl hq)
  have l1 := r1.length
  have l2 := r2.length
  obtain ⟨o1, n1, a1, b1, _, c1⟩ := hp1
  obtain ⟨o2, n2, a2, b2, _, c2⟩ := hp2
  refine ne_lists ⟨o1, a1, b1, n1, c1⟩ ⟨o2, a2, b2, n2, c2⟩ (by simp; omega) (by omega) (fun j h1 h2 => ?_) ⟨.bl false, H, I, rfl, q⟩
  simp at h1 h2
  obtain ⟨x', hx'⟩ : ∃ x', xs[j]? = some x' := ⟨xs[j]'(by omega), by rw [List.getElem?_eq_getElem]⟩
  obtain ⟨y', hy'⟩ : ∃ y', ys[j]? = some y' := ⟨ys[j]'(by omega), by rw [List.getElem?_eq_getElem]⟩
  obtain ⟨u', hu', ru⟩ := r1.get hx'
  obtain ⟨v', hv', rv⟩ := r2.get hy'
  have e1 : its.toArray[j]'(by simpa using h1) = u' := by
    have := List.getElem?_eq_getElem h1
    rw [hu'] at this
    simpa using this.symm
  have e2 : jts.toArray[j]'(by simpa using h2) = v' := by
    have := List.getElem?_eq_getElem h2
    rw [hv'] at this
    simpa using this.symm
  rw [e1, e2]
  exact (EqT.tree I 2 x' y' u' v' (hj j x' y' hx' hy') ru rv).at _ (by show X.A.units + 1 + _ < cLine; omega)
theorem op_neTK {X : Cx} (K : PySem.W.Frag) (hu : X.A.units + 70 < cLine) (h : X.K = K := by rfl) : OpR X (compareOp .NotEq) (rNeT K) := h ▸ op_neT0 hu
/-- != of two lists that are equal, dicts among their items -/
def neTF (x y : D) : Option (R D) := match x, y with
  | .lst xs, .lst ys => if (decide (xs.length = ys.length) && (xs.zip ys).all fun p => eqTD 2 p.1 p.2) = true then some (.ok (.bl false)) else none
  | _, _ => none
def XE.net (a b : XE) : XE where
  t p := tOp (rNeT p.cm.K) (a.t p) (b.t p)
  f env := b2 (a.f env) (b.f env) neTF
  mo ms := match moTwo a b ms with
    | some (_, _, m2) => some (.own, m2)
    | none => none
  ok p ms k ms' hm Z H σ env OW Q E hP := by
    split at hm
    · next k1 k2 m2 e =>
      cases hm
      obtain ⟨m1, h1, h2⟩ := moTwo_of e
      refine XE.two a b h1 h2 E hP fun d1 d2 v1 v2 H2 f1 f2 Z2 OW2 _ _ e2 s2 E2 r1 r2 _ _ _ hP2 => ?_
      unfold neTF at hP2
      split at hP2
      · next xs ys _ _ =>
        split at hP2
        · next hs =>
          have t3 : eqTD 3 (.lst xs) (.lst ys) = true := by
            unfold eqTD
            rw [Bool.or_eq_true]
            exact .inr hs
          rw [Bool.and_eq_true] at hs
          have hl := of_decide_eq_true hs.1
          refine ⟨eqTD_rp 3 _ _ v1 v2 f1 f2 r1 r2 t3, ?_, hP2 _ H2 [] Z2 OW2 e2 s2 E2 (RpL.at rfl) (KdOk.nil _)⟩
          obtain ⟨a, us, f1, rfl, rd, rr, _⟩ := r1.lst_of
          obtain ⟨b, ws, g1, rfl, rd2, rr2, _⟩ := r2.lst_of
          refine ⟨a, b, us, ws, rfl, rfl, rd, rd2, by rw [rr.length, rr2.length]; exact hl, fun j u z hu hz => ?_⟩
          have ju : j < us.length := (List.getElem?_eq_some_iff.mp hu).1
          have j1 : j < xs.length := by rw [← rr.length]; exact ju
          have j2 : j < ys.length := by omega
          obtain ⟨u', f', e1, q1, _⟩ := rr.get j xs[j] (by rw [List.getElem?_eq_getElem j1])
          obtain ⟨z', g', e2, q2, _⟩ := rr2.get j ys[j] (by rw [List.getElem?_eq_getElem j2])
          rw [hu] at e1; cases e1
          rw [hz] at e2; cases e2
          exact eqTD_rp 2 _ _ _ _ _ _ q1 q2 (List.all_eq_true.mp hs.2 (xs[j], ys[j]) (by
            rw [List.mem_iff_getElem]
            exact ⟨j, by rw [List.length_zip]; omega, by rw [List.getElem_zip]⟩))
        · exact hP2.elim
      · exact hP2.elim
    · cases hm
/-! ### != of two dicts of ints that are equal -/
def intKV : List (Key × D) → Option (List (Key × Int))
  | [] => some []
  | (k, .int i) :: r => (intKV r).map ((k, i) :: ·)
  | _ => none
theorem intKV_of : ∀ {kvs : List (Key × D)} {ns : List (Key × Int)}, intKV kvs = some ns → kvs = ns.map fun p => (p.1, .int p.2)
  | [], ns, h => by cases h; rfl
  | (k, d) :: r, ns, h => by
    cases d with
    | int i =>
      obtain ⟨ms, e, rfl⟩ := Option.map_eq_some_iff.mp (show (intKV r).map ((k, i) :: ·) = some ns from h)
      rw [List.map_cons, ← intKV_of e]
    | _ => cases h
def neDF (x y : D) : Option (R D) := match x, y with
  | .dct ks, .dct ls => match intKV ks, intKV ls with
    | some a, some b => if a.length = b.length ∧ (∀ p ∈ a, (b.find? fun kv => decide (kv.1 = p.1)).map (·.2) = some p.2) then some (.ok (.bl false)) else none
    | _, _ => none
  | _, _ => none
theorem ints_vals {cm : CM} {H : Hp} {a : List (Key × Int)} {ks : List (Key × V)} {g : List Addr} (e : ks.map (·.1) = (a.map fun p => ((p.1, D.int p.2) : Key × D)).map (·.1)) (r : RpL cm H (ks.map (·.2)) ((a.map fun p => ((p.1, D.int p.2) : Key × D)).map (·.2)) g) :
    ks = a.map fun p => (p.1, V.int p.2) := by
  rw [List.map_map] at e r
  have r' : RpL cm H (ks.map (·.2)) ((a.map (·.2)).map D.int) g := by rw [List.map_map]; exact r
  obtain ⟨hv, _⟩ := r'.ints
  have hk : ks.map (·.1) = a.map (·.1) := e
  clear r r' e
  induction ks generalizing a with
  | nil =>
    cases a with
    | nil => rfl
    | cons _ _ => simp at hk
  | cons q ks ih =>
    cases a with
    | nil => simp at hk
    | cons p a =>
      rw [List.map_cons, List.map_cons] at hk
      rw [List.map_cons, List.map_cons, List.map_cons] at hv
      injection hk with k1 k2
      injection hv with v1 v2
      rw [List.map_cons, ← ih v2 k2, ← k1, ← v1]
theorem valV_ints (b : List (Key × Int)) (k : Key) : valV (b.map fun p => ((p.1, V.int p.2) : Key × V)) k = ((b.find? fun kv => decide (kv.1 = k)).map (·.2)).map V.int := by
  induction b with
  | nil => rfl
  | cons p b ih =>
    rw [List.map_cons]
    by_cases h : p.1 = k
    · rw [valV_pos h, List.find?_cons_of_pos (by simpa using h)]; rfl
    · rw [valV_neg h, List.find?_cons_of_neg (by simpa using h)]; exact ih
def XE.ned (a b : XE) : XE where
  t p := tOp rNeR (a.t p) (b.t p)
  f env := b2 (a.f env) (b.f env) neDF
  mo ms := match moTwo a b ms with
    | some (_, _, m2) => some (.own, m2)
    | none => none
  ok p ms k ms' hm Z H σ env OW Q E hP := by
    split at hm
    · next k1 k2 m2 e =>
      cases hm
      obtain ⟨m1, h1, h2⟩ := moTwo_of e
      refine XE.two a b h1 h2 E hP fun d1 d2 v1 v2 H2 f1 f2 Z2 OW2 _ _ e2 s2 E2 r1 r2 _ _ _ hP2 => ?_
      unfold neDF at hP2
      split at hP2
      · next ks ls _ _ =>
        split at hP2
        · next a b ea eb =>
          split at hP2
          · next hc =>
            have hQ := hP2 _ H2 [] Z2 OW2 e2 s2 E2 (RpL.at rfl) (KdOk.nil _)
            obtain ⟨p1, us, g1, rfl, rd1, ee1, rr1⟩ := r1.dct_later
            obtain ⟨p2, ws, g2, rfl, rd2, ee2, rr2⟩ := r2.dct_later
            rw [intKV_of ea] at ee1 rr1
            rw [intKV_of eb] at ee2 rr2
            have q1 := ints_vals ee1 rr1
            have q2 := ints_vals ee2 rr2
            subst q1 q2
            refine ⟨p1, p2, _, _, rfl, rfl, rd1, rd2, by simpa using hc.1, fun p hp => ?_, hQ⟩
            obtain ⟨z, hz, rfl⟩ := List.mem_map.mp hp
            rw [valV_ints, hc.2 z hz]
            exact ⟨rfl, rfl⟩
          · exact hP2.elim
        · exact hP2.elim
      · exact hP2.elim
    · cases hm
end DL
set_option maxRecDepth 100000
namespace DL
open PySem PySem.Spec PyProof.Rows L2
/-! ### xs.clear() -/
def clrF : D → Option D
  | .lst _ => some (.lst [])
  | _ => none
def XS.clr (a : XP) : XS where
  t p := tDrop (tBM0 p.cm.K "list" rClear (a.t p))
  f env := bPS (a.f env) env fun path => if isLstD (atP env a.i path) then chg env a.i path clrF else none
  mo c ms := match a.mo ms with
    | none => none
    | some m1 => if wk ms c.mx && decide (m1[a.i]? = some .own) then some (some m1) else none
  ok p c ms k hm Z H σ env OW En E hP := by
    split at hm
    · cases hm
    next m1 h1 =>
    split at hm
    case isFalse => cases hm
    next hc =>
    cases hm
    rw [Bool.and_eq_true] at hc
    obtain ⟨hx, ho1⟩ := hc
    have ho1 := of_decide_eq_true ho1
    refine XP.stm a h1 hx E hP fun path v0 v' H1 Z1 OW1 _ e1 s1 E1 hv fo hP1 => ?_
    have hP1' := PoS.after hP1 (Same.fr e1) s1
    split at hP1'
    case isFalse => exact hP1'.elim
    next hl =>
    cases qa : atP env a.i path with
    | none => rw [qa] at hl; cases hl
    | some dl =>
    cases dl with
    | lst dl0 =>
      obtain ⟨g, rg, _⟩ := foc_at E1 ho1 qa hv fo
      obtain ⟨b, us, g', rfl, rd, _, rfl⟩ := rg.lst_of
      refine ⟨.inl ⟨rfl, us, .inl rd⟩, ?_⟩
      obtain ⟨d', d'', gg, qd, rgg, sg, ng, put⟩ := chg_ok hP1' (Same.refl H1) Stp.refl E1 ho1 hv fo
      cases d' with
      | lst ds =>
        have qd : some (D.lst []) = some d'' := qd
        cases qd
        obtain ⟨b', us', g'', he, rd', rr', rfl⟩ := rgg.lst_of
        cases he
        have ex : H1 b = some (.lst us') := rd_wr rd' (E1.wr b (sg b List.mem_cons_self))
        refine ⟨b, us', rfl, rfl, ex, ?_⟩
        exact put _ [b] [] List.mem_cons_self trivial (RpL.lst1 (.inl upd_same) .nil) (by simp) (fun x hx => by
          have : x = b := by simpa using hx
          exact .inl (this ▸ List.mem_cons_self)) (fun x hx => by cases hx)
      | _ => cases qd
    | _ => rw [qa] at hl; cases hl
theorem pe_bm0K {X : Cx} (K : PySem.W.Frag) {o : Expr} {to : TE} {name : Str} {apos cpos : Pos} {T id : String} {r : V → List V → Hp → VK → Prop} (pa : PlainAttrs T) (slot : Slot T name id) (hty : typeOf (.builtin id) = pure (.type "method_descriptor")) (hm : MtR X id r) (ho : PE X o to) (h : X.K = K := by rfl)
    (hbase : attributeBase o name X.env (eval o X.env) = eval o X.env := by rfl) (hline : (apos.endLine == cpos.line) = true := by rfl) : PE X (.Call (.Attribute o name apos) [] [] cpos) (tBM0 K T r to) := h ▸ pe_bm0 pa slot hty hm ho hbase hline
end DL
set_option maxRecDepth 100000
namespace DL
open PySem PySem.Spec PyProof.Rows L2
/-! ### a for over a list that its slot keeps -/
/-- a statement leaves slot i as it is -/
def KeepS (i : Nat) (t : TS) : Prop := ∀ (En : Ends) (N N' B B' : L2.St → Hp → Prop) σ H, t { En with nx := N, ct := N, bk := B } σ H →
  (∀ σ2 H2, σ2[i]? = σ[i]? → N σ2 H2 → N' σ2 H2) → (∀ σ2 H2, σ2[i]? = σ[i]? → B σ2 H2 → B' σ2 H2) → t { En with nx := N', ct := N', bk := B' } σ H
theorem keepS_dput {i a b c : Nat} : KeepS i (sDPut (tVar a) (tVar b) (tVar c)) := by
  intro En N N' B B' σ H h hN _
  obtain ⟨v, e1, x, e2, y, e3, q, H4, e4, e5, e6⟩ := h
  exact ⟨v, e1, x, e2, y, e3, q, H4, e4, e5, hN _ _ rfl e6⟩
def backO (i : Nat) (d : D) : Out → Out
  | .nx e => .nx (e.set i (some d))
  | o => o
theorem loopK_back {o : Option Out} {next : EnvD → Option Out} {l : List Nat} {i : Nat} {d : D} : (loopK o next l).map (backO i d) = match o with
    | some (.nx e) => (next (killE l e)).map (backO i d)
    | some (.ct e) => (next (killE l e)).map (backO i d)
    | some (.bk e) => some (.nx ((killE l e).set i (some d)))
    | some (.rt v) => some (.rt v)
    | some (.ex c p e) => some (.ex c p e)
    | none => none := by
  cases o with
  | none => rfl
  | some o => cases o <;> rfl
theorem wipe_get {σ : L2.St} {i : Nat} : ∀ {l : List Nat}, i ∉ l → (wipe σ l)[i]? = σ[i]?
  | [], _ => rfl
  | v :: l, h => by
    rw [wipe, List.getElem?_set_ne (fun z => h (by rw [z]; exact List.mem_cons_self)), wipe_get fun z => h (List.mem_cons_of_mem _ z)]
theorem wipe_eq_get {σ σ' : L2.St} {i : Nat} {l : List Nat} (h : i ∉ l) (e : wipe σ' l = wipe σ l) : σ'[i]? = σ[i]? := by
  rw [← wipe_get (σ := σ') h, e, wipe_get h]
def itemsK (en : Bool) (ds : List D) : List D := if en then enumD ds else ds
theorem kp_run {p : Pm} {c : Cm} {g : XG} {body : XS} {l : List Nat} {m1 : List M} {i : Nat} (hc : moFor g body l c .own m1 = true) (hi : m1[i]? = some .dead) (hsl : i ∉ g.sl) (hk : KeepS i (body.t p))
    {J : It} {Z1 : Zn} {OW0 OW1 : List Addr} {H1 : Hp} {σ : L2.St} {env : EnvD} {ds dl : List D} {a : Addr} {us : List V} {En : Ends}
    (E1 : ER p.cm m1 Z1 H1 σ env OW1) (hJ : ItOk p.cm J .own Z1 OW1 H1 ds) (sa : σ[i]? = some (some (.ref a))) (ra : H1 a = some (.lst us)) (na : a ∉ OW1) (nz : ¬ Z1.n a) (rr : RpL p.cm H1 us dl []) (aO : a ∈ OW0) (sub : ∀ x ∈ OW1, x ∈ OW0)
    (hP1 : PoS p c (some (m1.set i .own)) Z1 H1 OW0 ((forD g.f body.f l ds env).map (backO i (.lst dl))) En) :
    ∃ W : Nat → Nat → L2.St → Hp → Prop, (∃ m, W 0 m σ H1) ∧ ∀ i m σ H, W i m σ H →
      (J.stop i H ∧ En.nx σ H) ∨ (J.go i H ∧ ∃ N : L2.St → Hp → Prop, (∀ σ' H', N σ' H' → ∃ m', m' < m ∧ W (i + 1) m' σ' H') ∧ ∀ x H', J.yld i H x H' → (g.t p) x σ H' fun σ2 H2 => (body.t p) { En with nx := N, ct := N, bk := En.nx } σ2 H2) := by
  obtain ⟨hl, m2, kb, hg, hb, hw⟩ := moFor_of hc
  have lt : i < m1.length := by
    rcases Nat.lt_or_ge i m1.length with h | h
    · exact h
    · rw [List.getElem?_eq_none h] at hi; cases hi
  have frO : ∀ {H'}, Fr OW1 H1 H' → Fr OW0 H1 H' := fun fr x o e nx => fr x o e fun z => nx (sub x z)
  have stO : ∀ {Z' OW' H'}, Stp Z1 OW1 H1 Z' OW' H' → Stp Z1 OW0 H1 Z' OW' H' := fun s =>
    ⟨fun x hx => (s.ow x hx).imp (sub x) id, s.n1, s.s1, fun x hx => (s.n2 x hx).imp id (Or.imp (sub x) id), fun x hx => (s.s2 x hx).imp id (Or.imp (sub x) id), s.gro⟩
  -- the end: the list is its slot's again
  have fin : ∀ {σ' H' Z' OW' env'}, Fr OW1 H1 H' → Stp Z1 OW1 H1 Z' OW' H' → ER p.cm m1 Z' H' σ' env' OW' → σ'[i]? = some (some (.ref a)) → PoS p c (some (m1.set i .own)) Z1 H1 OW0 (some (.nx (env'.set i (some (.lst dl))))) En → En.nx σ' H' := by
    intro σ' H' Z' OW' env' fr st E' sa' hp
    have ra' : H' a = some (.lst us) := fr a _ ra na
    have nn : H1 a ≠ none := by rw [ra]; intro z; cases z
    have r' : RpL p.cm H' [.ref a] [.lst dl] [a] := RpL.lst1 (.inl ra') (rr.later fr (fun x hx => by cases hx) E1.wr)
    have na' : a ∉ OW' := fun z => (st.ow a z).elim na nn
    have nz' : ¬ Z'.n a := fun z => (st.n2 a z).elim nz fun z => z.elim na nn
    obtain ⟨OW2, E2, so⟩ := E'.put (i := i) (k := .own) (m := .own) lt r' ⟨by simp, fun x hx => by
      have : x = a := by simpa using hx
      subst this
      exact ⟨na', nz', ⟨_, ra', trivial⟩⟩⟩ rfl
    rw [set_self_of sa'] at E2
    refine hp _ rfl σ' H' Z' OW2 (frO fr) ?_ E2
    have s0 := stO st
    refine ⟨fun x hx => ?_, s0.n1, s0.s1, s0.n2, s0.s2, s0.gro⟩
    rcases so x hx with z | ⟨_, z⟩
    · exact s0.ow x z
    · have : x = a := by simpa using z
      subst this
      exact .inl aO
  refine ⟨fun k m σ' H' => m = ds.length - k ∧ k ≤ ds.length ∧ ∃ Z' OW' env', Fr OW1 H1 H' ∧ Stp Z1 OW1 H1 Z' OW' H' ∧ ER p.cm m1 Z' H' σ' env' OW' ∧ σ'[i]? = some (some (.ref a)) ∧ PoS p c (some (m1.set i .own)) Z1 H1 OW0 ((forD g.f body.f l (ds.drop k) env').map (backO i (.lst dl))) En,
    ⟨ds.length, by simp, Nat.zero_le _, Z1, OW1, env, (fun _ _ h _ => h), Stp.refl, E1, sa, hP1⟩, ?_⟩
  rintro k m σ' H' ⟨rfl, hk', Z', OW', env', fr, st, E', sa', hp⟩
  obtain ⟨hgo, hstop⟩ := hJ Z' OW' H' fr st
  by_cases hlt : k < ds.length
  · right
    have ed : ds[k]? = some ds[k] := List.getElem?_eq_getElem hlt
    obtain ⟨go, y⟩ := hgo k _ ed
    rw [List.drop_eq_getElem_cons hlt] at hp
    refine ⟨go, fun σ'' H'' => ds.length - (k + 1) = ds.length - (k + 1) ∧ k + 1 ≤ ds.length ∧ ∃ Z' OW' env', Fr OW1 H1 H'' ∧ Stp Z1 OW1 H1 Z' OW' H'' ∧ ER p.cm m1 Z' H'' σ'' env' OW' ∧ σ''[i]? = some (some (.ref a)) ∧ PoS p c (some (m1.set i .own)) Z1 H1 OW0 ((forD g.f body.f l (ds.drop (k + 1)) env').map (backO i (.lst dl))) En, fun σ'' H'' hN => ⟨ds.length - (k + 1), by omega, hN⟩, fun x H2 hy => ?_⟩
    obtain ⟨e2, gg, rx, Kown, Kx⟩ := y x H2 hy
    have hp' : PoS p c (some (m1.set i .own)) Z1 H1 OW0 ((match g.f ds[k] env' with
      | none => none
      | some e1 => loopK (body.f e1) (fun e => forD g.f body.f l (ds.drop (k + 1)) e) l).map (backO i (.lst dl))) En := hp
    cases qb : g.f ds[k] env' with
    | none => rw [qb] at hp'; exact hp'.elim
    | some ev =>
      rw [qb] at hp'
      have hp' : PoS p c (some (m1.set i .own)) Z1 H1 OW0 ((loopK (body.f ev) (fun e => forD g.f body.f l (ds.drop (k + 1)) e) l).map (backO i (.lst dl))) En := hp'
      rw [loopK_back] at hp'
      refine g.ok p .own m1 m2 hg Z' H2 σ' env' OW' x ds[k] gg ev _ (E'.same e2) qb rx Kx fun σ2 OW2 E2 so wp => ?_
      have so' : ∀ a ∈ OW2, a ∈ OW' := fun a ha => by
        rcases so a ha with z | ⟨z, za⟩
        · exact z
        · rw [Kown z] at za; cases za
      have sa2 : σ2[i]? = some (some (.ref a)) := (wipe_eq_get hsl (wp g.sl fun _ h => h)).trans sa'
      have st2 : Stp Z1 OW1 H1 Z' OW2 H2 := by
        have s3 := st.trans (Stp.same e2)
        exact ⟨fun a ha => s3.ow a (so' a ha), s3.n1, s3.s1, s3.n2, s3.s2, s3.gro⟩
      have fr2 : Fr OW1 H1 H2 := fr.trans st (Same.fr e2)
      refine hk En
        (fun σ3 H3 => ∃ Z3 OW3 env3, Fr OW1 H1 H3 ∧ Stp Z1 OW1 H1 Z3 OW3 H3 ∧ ER p.cm m1 Z3 H3 σ3 env3 OW3 ∧ PoS p c (some (m1.set i .own)) Z1 H1 OW0 ((forD g.f body.f l (ds.drop (k + 1)) env3).map (backO i (.lst dl))) En) _
        (fun σ3 H3 => ∃ Z3 OW3 env3, Fr OW1 H1 H3 ∧ Stp Z1 OW1 H1 Z3 OW3 H3 ∧ ER p.cm m1 Z3 H3 σ3 env3 OW3 ∧ PoS p c (some (m1.set i .own)) Z1 H1 OW0 (some (.nx (env3.set i (some (.lst dl))))) En) _ σ2 H2
        (body.ok p { c with mb := m1, mc := m1 } m2 kb hb Z' H2 σ2 ev OW2 _ E2 ?_)
        (fun σ3 H3 e3 ⟨Z3, OW3, env3, a1, a2, a3, a4⟩ => ⟨rfl, hlt, Z3, OW3, env3, a1, a2, a3, e3.trans sa2, a4⟩)
        (fun σ3 H3 e3 ⟨Z3, OW3, env3, a1, a2, a3, a4⟩ => fin a1 a2 a3 (e3.trans sa2) a4)
      have hp2 := PoS.after hp' (frO fr2) (stO st2)
      cases qo : body.f ev with
      | none => rw [qo] at hp'; exact hp'.elim
      | some o =>
        rw [qo] at hp' hp2
        cases o with
        | nx env'' =>
          intro m3 q3 σ3 H3 Z3 OW3 fr3 st3 E3
          obtain ⟨Z4, OW4, E4, st4⟩ := E3.weak (hw m3 q3)
          exact ⟨Z4, OW4, killE l env'', fr2.trans st2 fr3, st2.trans (st3.trans st4), ER.killE l E4 hl, hp'⟩
        | ct env'' =>
          intro σ3 H3 Z3 OW3 fr3 st3 E3
          exact ⟨Z3, OW3, killE l env'', fr2.trans st2 fr3, st2.trans st3, ER.killE l E3 hl, hp'⟩
        | bk env'' =>
          intro σ3 H3 Z3 OW3 fr3 st3 E3
          exact ⟨Z3, OW3, killE l env'', fr2.trans st2 fr3, st2.trans st3, ER.killE l E3 hl, hp'⟩
        | rt d => exact hp2
        | ex cl pl env'' => exact hp2
  · left
    have e : k = ds.length := by omega
    subst e
    rw [List.drop_length] at hp
    exact ⟨hstop _ (Nat.le_refl _), fin fr st E' sa' hp⟩
/-- for g in xs (or in enumerate(xs)): xs stays its slot's own; items that do not change -/
def XS.forkp (en : Bool) (i : Nat) (g : XG) (body : XS) (hk : ∀ p, KeepS i (body.t p)) (l : List Nat) : XS where
  t p := match en with
    | true => tFor (iEnum p.cm.K (tCons (tVar i) tNil)) (g.t p) (body.t p)
    | false => tFor (iSeq p.cm.K (tVar i)) (g.t p) (body.t p)
  f env := match eget env i with
    | some (.ok (.lst ds)) => if immL ds then (forD g.f body.f l (itemsK en ds) env).map (backO i (.lst ds)) else none
    | _ => none
  mo c ms := if ms[i]? = some .own ∧ moFor g body l c .own (ms.set i .dead) = true ∧ i ∉ g.sl then some (some ms) else none
  ok p c ms k hm Z H σ env OW En E hP := by
    split at hm
    case isFalse => cases hm
    next hc =>
    cases hm
    obtain ⟨hown, hc, hsl⟩ := hc
    obtain ⟨v, d, f, OW1, e1, e2, r, s', z1, z2, z3⟩ := E.sl.move i hown
    obtain ⟨n1, n2, n3⟩ := z3 E.nd
    have eg : eget env i = some (.ok d) := by unfold eget; rw [e2]
    rw [eg] at hP
    cases d with
    | lst ds =>
      have hP : PoS p c (some ms) Z H OW (if immL ds then (forD g.f body.f l (itemsK en ds) env).map (backO i (.lst ds)) else none) En := hP
      split at hP
      case isFalse => exact hP.elim
      next him =>
      obtain ⟨a, us, ga, rfl, rd, rr, rfl⟩ := r.lst_of
      have hga : ga = [] := rr.imm him
      subst hga
      have E1 : ER p.cm (ms.set i .dead) Z H σ env OW1 := ⟨s', n2, fun x hx => E.wr x (z2 x hx), fun x hx => E.dis x (z2 x hx), E.tr, E.sub⟩
      have aO : a ∈ OW := z1 a List.mem_cons_self
      have na := n3 a List.mem_cons_self
      have lt : i < ms.length := by
        rcases Nat.lt_or_ge i ms.length with h | h
        · exact h
        · rw [List.getElem?_eq_none h] at hown; cases hown
      have ra : H a = some (.lst us) := rd_wr rd (E.wr a aO)
      have hs : (ms.set i .dead).set i .own = ms := by rw [List.set_set, set_self_of hown]
      have hd : (ms.set i .dead)[i]? = some .dead := List.getElem?_set_self lt
      have hP' : PoS p c (some ((ms.set i .dead).set i .own)) Z H OW ((forD g.f body.f l (itemsK en ds) env).map (backO i (.lst ds))) En := by rw [hs]; exact hP
      have run := fun (J : It) (hJ : ItOk p.cm J .own Z OW1 H (itemsK en ds)) => kp_run hc hd hsl (hk p) E1 hJ e1 ra na (E.dis a aO) rr aO z2 hP'
      cases en with
      | true => exact ⟨.ref a, e1, a, us, rfl, .inl rd, run _ (itOk_enum (K := p.cm.K) (a := a) E1 rr (fun x hx => by cases hx) (.inl rfl) (.inl ⟨rd, na⟩))⟩
      | false => exact ⟨.ref a, e1, a, rfl, .inl ⟨⟨us, .inl rd⟩, run _ (itOk_seq (K := p.cm.K) (a := a) E1 rr (fun x hx => by cases hx) (.inl rfl) (list_J (.inl ⟨rd, na⟩) E1.wr))⟩⟩
    | _ => exact hP.elim
/-- the two items of an owned pair, each its own from here on, and what stands behind them -/
def XA.take2 (i : Nat) (as : XA) : XA where
  t p := tCons (tOp (rIx p.cm.K) (tVar i) (tC (.int 0))) (tCons (tOp (rIx p.cm.K) (tVar i) (tC (.int 1))) (as.t p))
  f env := match eget env i with
    | some (.ok (.tup [x, y])) => bA (some (.ok x)) (bA (some (.ok y)) (as.f env))
    | _ => none
  mo ms := if ms[i]? = some .own then match as.mo (ms.set i .dead) with
    | none => none
    | some (k2, m2) => some (joinK .own k2, m2) else none
  ok p ms k ms' hm Z H σ env OW Q E hP := by
    split at hm
    case isFalse => cases hm
    next hown =>
    split at hm
    · cases hm
    next k2 m2 h2 =>
    cases hm
    obtain ⟨v, d, f, OW1, e1, e2, r, s', z1, z2, z3⟩ := E.sl.move i hown
    obtain ⟨n1, n2, n3⟩ := z3 E.nd
    have eg : eget env i = some (.ok d) := by unfold eget; rw [e2]
    rw [eg] at hP
    match d, hP with
    | .tup [x, y], hP =>
      have hP : PoA p (joinK .own k2) ms' Z H σ env OW (bA (some (.ok x)) (bA (some (.ok y)) (as.f env))) Q := hP
      obtain ⟨a, us, rfl, rd, rr⟩ := r.tup_of
      have rr0 := rr
      obtain ⟨u1, us', g1, g2, rfl, rfl, r1, rr⟩ := rr.cons_of
      obtain ⟨u2, us'', g3, g4, rfl, rfl, r2, rr⟩ := rr.cons_of
      obtain ⟨rfl, rfl⟩ := rr.nil_of
      have E1 : ER p.cm (ms.set i .dead) Z H σ env OW1 := ⟨s', n2, fun x hx => E.wr x (z2 x hx), fun x hx => E.dis x (z2 x hx), E.tr, E.sub⟩
      have s1 : Stp Z OW H Z OW1 H := ⟨fun a ha => .inl (z2 a ha), fun _ h => h, fun _ h => h, fun _ h => .inl h, fun _ h => .inl h, fun _ h => h⟩
      have K1 : KdOk .own OW H Z OW1 H (g1 ++ (g3 ++ [])) := ⟨n1, fun a ha => ⟨n3 a ha, E.dis a (z1 a ha), .inl (z1 a ha), E.wr a (z1 a ha)⟩⟩
      refine ⟨.ref a, e1, .inr (.inl ⟨a, _, 0, u1, rfl, rfl, .inl rd, rfl, .ref a, e1, .inr (.inl ⟨a, _, 1, u2, rfl, rfl, .inl rd, rfl, ?_⟩)⟩)⟩
      refine as.ok p (ms.set i .dead) k2 ms' h2 Z H σ env OW1 _ E1 ?_
      cases q2 : as.f env with
      | none => rw [q2] at hP; exact hP
      | some r2 =>
        rw [q2] at hP
        cases r2 with
        | ex c pl => exact fun dd H' e' x => hP dd H' e' x
        | ok ds =>
          intro vs H2 f2 Z2 OW2 e2 s2 E2 r2 K2
          have dj : Kd.own = .own → k2 = .own → ∀ a ∈ g1 ++ (g3 ++ []), a ∉ f2 := fun z1 z2 x hx hy => by
            subst z2
            rcases (K2.2 x hy).2.2.1 with z | z
            · exact (K1.2 x hx).1 z
            · exact rr0.trk x hx z
          obtain ⟨Z3, s3, E3, K3⟩ := KdOk.join (K1.later rr0.trk s2 e2) (K2.from s1) (s1.trans s2) E2 (fun x hx => Same.gro e2 x (rr0.trk x hx)) r2.trk dj
          exact hP (u1 :: u2 :: vs) H2 _ Z3 OW2 e2 s3 E3 ((rr0.same e2).append r2) K3
    | .non, hP => exact hP.elim
    | .bl _, hP => exact hP.elim
    | .int _, hP => exact hP.elim
    | .str _, hP => exact hP.elim
    | .lst _, hP => exact hP.elim
    | .dct _, hP => exact hP.elim
    | .ins _ _, hP => exact hP.elim
    | .scr _, hP => exact hP.elim
    | .tup [], hP => exact hP.elim
    | .tup [_], hP => exact hP.elim
    | .tup (_ :: _ :: _ :: _), hP => exact hP.elim
end DL
set_option maxRecDepth 100000
namespace DL
open PySem PySem.Spec PyProof.Rows L2
/-! ### exceptions of the program's own classes under ValueError -/
theorem pe_imp {X : Cx} {e : Expr} {t t' : TE} (h : PE X e t) (k : ∀ σ H Q, t' σ H Q → t σ H Q) : PE X e t' := ⟨fun pins s σ H Q I q => h.run pins s σ H Q I (k _ _ _ q)⟩
theorem pss_imp {X : Cx} {e : List Stmt} {t t' : TS} (h : PSs X e t) (k : ∀ D σ H, t' D σ H → t D σ H) : PSs X e t' := ⟨fun pins s σ H D I q => h.run pins s σ H D I (k _ _ _ q)⟩
def clsA (K : PySem.W.Frag) (s : Str) : Addr := match PySem.W.nsIn K mainGlobals s with
  | some (some (.ref a)) => a
  | _ => 0
abbrev vErr : Str := "ValueError"
def xV (K : PySem.W.Frag) (C : Str) : Value := if C = vErr then .type "ValueError" else .ref (clsA K C)
def xIs (D C : Str) : Bool := decide (C = D) || decide (C = ("HoleError" : Str)) || decide (C = vErr)
def bmV : List Value := [.type "ValueError", .type "Exception", .type "BaseException", .type "object"]
def xNamedB (K : PySem.W.Frag) (C : Str) : Bool := decide (C = vErr) || (decide (PySem.W.nsIn K mainGlobals C = some (some (.ref (clsA K C)))) && decide (PySem.W.subIn K (.ref (clsA K C)) (.type "BaseException") = some true) && PySem.W.hasDictIn K (clsA K C) && decide (PySem.W.typeIn K (.ref (clsA K C)) = some (.type "type")))
def xOwn (D : Str) : Bool := decide (D = ("NoPiece" : Str)) || decide (D = ("NoRound" : Str))
def xRaiseB (K : PySem.W.Frag) (D : Str) : Bool := (xOwn D || PySem.W.excIn K (clsA K D) bmV "ValueError.__new__") && PySem.W.keepIn K (.ref (clsA K D)) && decide (PySem.W.findIn K (.ref (clsA K D)) "__getattribute__" = some (some (.builtin "BaseException.__getattribute__"))) && decide (PySem.W.findIn K (.ref (clsA K D)) "__getattr__" = some none) &&
  decide (PySem.W.findIn K (.ref (clsA K D)) "__class__" = some (some (.builtin "object.__class__"))) && decide (PySem.W.specialIn K (.builtin "object.__class__") "__get__" = some (some (.builtin "getset_descriptor.__get__"))) && decide (PySem.W.takesIn K (.builtin "object.__class__") = some true) && decide (PySem.W.mroIn K (clsA K D) (.type "object") = some true) && decide (D ≠ vErr) && xNamedB K D
def xRelB (K : PySem.W.Frag) (D C : Str) : Bool := decide (PySem.W.kitOne K (.ref (clsA K D)) (xV K C) = some (xIs D C)) && (decide (C = vErr) || decide (PySem.W.subIn K (.ref (clsA K D)) (.ref (clsA K C)) = some (xIs D C)))
def xFactsB (K : PySem.W.Frag) (Ds Cs : List Str) : Bool := Ds.all (xRaiseB K) && Cs.all (xNamedB K) && Ds.all fun D => Cs.all fun C => xRelB K D C
structure XF (K : PySem.W.Frag) (mg : Str → Option Value) (Ds Cs : List Str) : Prop where
  raise : ∀ D ∈ Ds, xRaiseB K D = true
  named : ∀ C ∈ Cs, xNamedB K C = true
  rel : ∀ D ∈ Ds, ∀ C ∈ Cs, xRelB K D C = true
  gD : ∀ D ∈ Ds, mg D = some (.ref (clsA K D))
  gC : ∀ C ∈ Cs, C ≠ vErr → mg C = some (.ref (clsA K C))
theorem xf_mk {K : PySem.W.Frag} {h : Heap} {mg : Str → Option Value} {Ds Cs : List Str} (X : K.In h) (G : h.Ns mainGlobals mg) (e : xFactsB K Ds Cs = true) : XF K mg Ds Cs := by
  unfold xFactsB at e
  rw [Bool.and_eq_true, Bool.and_eq_true, List.all_eq_true, List.all_eq_true, List.all_eq_true] at e
  obtain ⟨⟨h1, h2⟩, h3⟩ := e
  have g : ∀ C, xNamedB K C = true → C ≠ vErr → mg C = some (.ref (clsA K C)) := fun C hC hne => by
    unfold xNamedB at hC
    rw [Bool.or_eq_true, Bool.and_eq_true, Bool.and_eq_true, Bool.and_eq_true, decide_eq_true_eq, decide_eq_true_eq] at hC
    rcases hC with z | z
    · exact absurd z hne
    · exact PySem.W.mg_of X G z.1.1.1
  refine ⟨h1, h2, fun D hD C hC => List.all_eq_true.mp (h3 D hD) C hC, fun D hD => ?_, fun C hC => g C (h2 C hC)⟩
  have := h1 D hD
  unfold xRaiseB at this
  rw [Bool.and_eq_true, Bool.and_eq_true] at this
  exact g D this.2 (of_decide_eq_true this.1.2)
section
variable {K : PySem.W.Frag} {mg : Str → Option Value} {Ds Cs : List Str}
theorem XF.parts {D : Str} (h : xRaiseB K D = true) : (xOwn D = false → PySem.W.excIn K (clsA K D) bmV "ValueError.__new__" = true) ∧ PySem.W.keepIn K (.ref (clsA K D)) = true ∧ L2.ExcC K (clsA K D) ∧ PySem.W.typeIn K (.ref (clsA K D)) = some (.type "type") := by
  unfold xRaiseB xNamedB at h
  simp only [Bool.and_eq_true, decide_eq_true_eq, Bool.or_eq_true] at h
  obtain ⟨⟨⟨⟨⟨⟨⟨⟨⟨h1, h2⟩, h3⟩, h4⟩, h5⟩, h6⟩, h7⟩, h8⟩, h9⟩, h10⟩ := h
  have h1 : xOwn D = false → PySem.W.excIn K (clsA K D) bmV "ValueError.__new__" = true := fun z => h1.elim (fun w => by rw [z] at w; cases w) id
  rcases h10 with z | ⟨⟨⟨z1, z2⟩, z3⟩, z4⟩
  · exact absurd z h9
  · exact ⟨h1, h2, ⟨h3, h4, z2, z3, h5, h6, h7, h8⟩, z4⟩
theorem XF.kit (F : XF K mg Ds Cs) {D C : Str} (hD : D ∈ Ds) (hC : C ∈ Cs) : PySem.W.kitOne K (.ref (clsA K D)) (xV K C) = some (xIs D C) := by
  have h := F.rel D hD C hC
  unfold xRelB at h
  rw [Bool.and_eq_true] at h
  exact of_decide_eq_true h.1
theorem XF.exm (F : XF K mg Ds Cs) {D C : Str} (hD : D ∈ Ds) (hC : C ∈ Cs) (hne : C ≠ vErr) : PySem.W.exmOne K (.ref (clsA K D)) (.ref (clsA K C)) = some (xIs D C) := by
  have h := F.rel D hD C hC
  unfold xRelB at h
  rw [Bool.and_eq_true, Bool.or_eq_true, decide_eq_true_eq, decide_eq_true_eq, decide_eq_true_eq] at h
  have h2 := F.named C hC
  unfold xNamedB at h2
  simp only [Bool.and_eq_true, decide_eq_true_eq, Bool.or_eq_true] at h2
  rcases h2 with z | ⟨⟨⟨z1, z2⟩, z3⟩, z4⟩
  · exact absurd z hne
  rcases h.2 with w | w
  · exact absurd w hne
  exact PySem.W.exm_ref z2 z3 z4 w
end
/-! ### raise -/
theorem ps_raiseD {X : Cx} {W : WX} {D m : Str} {p p2 pos pos' : Pos} {j : Nat} {Ds Cs : List Str} (F : XF X.K X.mg Ds Cs) (hD : D ∈ Ds) (hc : X.calm = true) (tk : L2N.Takes X W) (hg : Gl X D) (hdb : (D == ("__debug__" : Str)) = false := by decide) (hno : xOwn D = false := by decide +kernel) :
    PS X (.Raise (some (.Call (.Name D p) [.Constant (.str m) j p2] [] pos)) none pos') (fun _ σ H => W (.ref (clsA X.K D)) none σ H) := by
  obtain ⟨h1, h2, h3, h4⟩ := XF.parts (F.raise D hD)
  exact L2N.ps_raise hc tk (L2N.pmk_own PySem.F.excBase_ValueError (h1 hno) (F.gD D hD) h2 (raises_own h3.hs h4) hg hdb)
/-- raise the class with number n -/
def XS.rse (n : Nat) : XS where
  t p := fun _ σ H => p.W (.ref (p.cm.c n)) none σ H
  f env := some (.ex n .non env)
  mo c ms := if wk ms c.mx then some none else none
  ok p c ms k hm Z H σ env OW En E hP := by
    split at hm
    · next h =>
      cases hm
      obtain ⟨Z1, OW1, E1, hs⟩ := E.weak h
      exact hP none σ H Z1 OW1 (fun _ _ h _ => h) hs E1 rfl
    · cases hm
/-! ### what an except suite makes: data of its own -/
def tNew (cm : CM) (i : Nat) (a : Addr) (d : D) : TE := fun σ H Q => σ[i]? = some (some (.ref a)) ∧ ∀ v H' f, Same H H' → RpL cm H' [v] [d] f → f.Nodup → (∀ x ∈ f, H x = none ∧ WrA H' x) → Q v H'
def tNewA (cm : CM) (i : Nat) (a : Addr) (ds : List D) : TA := fun σ H Q => σ[i]? = some (some (.ref a)) ∧ ∀ vs H', Same H H' → RpL cm H' vs ds [] → Q vs H'
section
variable {X : Cx} {cm : CM} {i : Nat} {a : Addr} {e e2 : Expr} {es : List Expr} {pos : Pos}
theorem pe_atomD {d : D} {v : V} (h : PE X e (tC v)) (ha : atomV d = some v) : PE X e (tNew cm i a d) := pe_imp h fun σ H Q q => q.2 v H [] (Same.refl H) (RpL.at ha) List.nodup_nil (fun x hx => by cases hx)
theorem pe_andD {rest : List Expr} {x y : Bool} (h1 : PE X e (tNew cm i a (.bl x))) (h2 : PE X (.BoolOp .And (e2 :: rest) pos) (tNew cm i a (.bl y))) : PE X (.BoolOp .And (e :: e2 :: rest) pos) (tNew cm i a (.bl (x && y))) :=
  pe_imp (pe_and h1 h2) fun σ H Q q => ⟨q.1, fun v H' f sm r nd fr => by
    obtain ⟨rfl, rfl⟩ := r.bl_of
    refine ⟨x, rfl, ?_⟩
    cases x with
    | false =>
      rw [if_neg Bool.false_ne_true]
      exact q.2 _ H' [] sm (RpL.at rfl) List.nodup_nil (fun x hx => by cases hx)
    | true =>
      rw [if_pos rfl]
      refine ⟨q.1, fun v2 H2 f2 sm2 r2 nd2 fr2 => ?_⟩
      obtain ⟨rfl, rfl⟩ := r2.bl_of
      exact q.2 _ H2 [] (sm.trans sm2) (RpL.at rfl) List.nodup_nil (fun x hx => by cases hx)⟩
theorem pe_orD {rest : List Expr} {x y : Bool} (h1 : PE X e (tNew cm i a (.bl x))) (h2 : PE X (.BoolOp .Or (e2 :: rest) pos) (tNew cm i a (.bl y))) : PE X (.BoolOp .Or (e :: e2 :: rest) pos) (tNew cm i a (.bl (x || y))) :=
  pe_imp (pe_or h1 h2) fun σ H Q q => ⟨q.1, fun v H' f sm r nd fr => by
    obtain ⟨rfl, rfl⟩ := r.bl_of
    refine ⟨x, rfl, ?_⟩
    cases x with
    | true =>
      rw [if_pos rfl]
      exact q.2 _ H' [] sm (RpL.at rfl) List.nodup_nil (fun x hx => by cases hx)
    | false =>
      rw [if_neg Bool.false_ne_true]
      refine ⟨q.1, fun v2 H2 f2 sm2 r2 nd2 fr2 => ?_⟩
      obtain ⟨rfl, rfl⟩ := r2.bl_of
      exact q.2 _ H2 [] (sm.trans sm2) (RpL.at rfl) List.nodup_nil (fun x hx => by cases hx)⟩
theorem pe_notD {x : Bool} (h1 : PE X e (tNew cm i a (.bl x))) : PE X (.UnaryOp .Not e pos) (tNew cm i a (.bl (!x))) :=
  pe_imp (pe_not h1) fun σ H Q q => ⟨q.1, fun v H' f sm r nd fr => by
    obtain ⟨rfl, rfl⟩ := r.bl_of
    exact ⟨x, rfl, q.2 _ H' [] sm (RpL.at rfl) List.nodup_nil (fun x hx => by cases hx)⟩⟩
theorem pa_nilD : PA X [] (tNewA cm i a []) := ⟨fun pos pins s σ H Q I q => pa_nil.run pos pins s σ H Q I (q.2 [] H (Same.refl H) .nil)⟩
theorem pa_consD {d : D} {ds : List D} (h1 : PE X e (tNew cm i a d)) (h2 : PA X es (tNewA cm i a ds)) (him : immD d = true) (hs : starEach (e :: es) X.env = (false, eval e X.env) :: starEach es X.env := by rfl) : PA X (e :: es) (tNewA cm i a (d :: ds)) :=
  ⟨fun pos pins s σ H Q I q => (pa_cons h1 h2 hs).run pos pins s σ H Q I ⟨q.1, fun v H' f sm r nd fr => by
    have := r.imm1 him
    subst this
    exact ⟨q.1, fun vs H2 sm2 r2 => q.2 (v :: vs) H2 (sm.trans sm2) (by have := (r.same sm2).cons1 r2; simpa using this)⟩⟩⟩
theorem pe_tupD {ds : List D} {x1} (h : PA X es (tNewA cm i a ds)) (hl : ds.length ≤ sizeLine := by decide) : PE X (.Tuple es x1 pos) (tNew cm i a (.tup ds)) :=
  pe_imp (pe_tup h) fun σ H Q q => ⟨q.1, fun vs H' sm r => ⟨by rw [r.length]; exact hl, fun p hp => by
    have e := same_upd (o := .tup vs) hp
    exact q.2 (.ref p) _ [] (sm.trans e) (RpL.tup1 (.inl upd_same) (r.same e)) List.nodup_nil (fun x hx => by cases hx)⟩⟩
end
/-- isinstance(e, C) of the exception that the suite holds -/
theorem pe_isD {X : Cx} {cm : CM} {a : Addr} {oe : Obj} {pn : List (Addr × Obj)} {i n : Nat} {x C : Str} {Ds Cs : List Str} {p px pc pos : Pos} (F : XF X.K X.mg Ds Cs) (hn : n < Ds.length) (hz : L2N.Zn (.ref (clsA X.K (Ds.getD n ""))) none oe) (hf : ∃ vs, oe.data = .fields vs)
    (hC : C ∈ Cs) (hce : C ≠ vErr) (hx : PE (X.suite a ((a, oe) :: pn)) (.Name x px) (tVar i)) (hgi : Gl X "isinstance") (hmi : X.mg "isinstance" = none) (hgC : Gl X C) (hdb : (C == ("__debug__" : Str)) = false := by decide) :
    PE (X.suite a ((a, oe) :: pn)) (.Call (.Name "isinstance" p) [.Name x px, .Name C pc] [] pos) (tNew cm i a (.bl (xIs (Ds.getD n "") C))) := by
  have hD : Ds.getD n "" ∈ Ds := by
    rw [List.getD_eq_getElem?_getD, List.getElem?_eq_getElem hn]
    exact List.getElem_mem _
  obtain ⟨_, _, h3, _⟩ := XF.parts (F.raise _ hD)
  have hk := F.kit hD hC
  unfold xV at hk
  rw [if_neg hce] at hk
  have hcl : PE (X.suite a ((a, oe) :: pn)) (.Name C pc) (tC (.ref (clsA X.K C))) := pe_glob (X := X.suite a ((a, oe) :: pn)) (v := .ref (clsA X.K C)) (u := .ref (clsA X.K C)) hgC (F.gC C hC hce) rfl hdb
  refine pe_imp (pe_callB (X := X.suite a ((a, oe) :: pn)) (call_isE (X := X) (pn := pn) h3 hz.zc hf) hgi hmi boot_isinstance (pa_cons hx (pa_cons hcl pa_nil))) fun σ H Q q => ?_
  exact ⟨.ref a, q.1, .ref (clsA X.K C), .ref (clsA X.K C), _, rfl, (fun u hu => hu), hk, q.2 _ H [] (Same.refl H) (RpL.at rfl) List.nodup_nil (fun x hx => by cases hx)⟩
theorem pe_isDV {X : Cx} {cm : CM} {a : Addr} {oe : Obj} {pn : List (Addr × Obj)} {i n : Nat} {x : Str} {Ds Cs : List Str} {p px pc pos : Pos} (F : XF X.K X.mg Ds Cs) (hn : n < Ds.length) (hz : L2N.Zn (.ref (clsA X.K (Ds.getD n ""))) none oe) (hf : ∃ vs, oe.data = .fields vs)
    (hC : vErr ∈ Cs) (hx : PE (X.suite a ((a, oe) :: pn)) (.Name x px) (tVar i)) (hgi : Gl X "isinstance") (hmi : X.mg "isinstance" = none) (hgC : Gl X vErr) (hmV : X.mg vErr = none) :
    PE (X.suite a ((a, oe) :: pn)) (.Call (.Name "isinstance" p) [.Name x px, .Name vErr pc] [] pos) (tNew cm i a (.bl (xIs (Ds.getD n "") vErr))) := by
  have hD : Ds.getD n "" ∈ Ds := by
    rw [List.getD_eq_getElem?_getD, List.getElem?_eq_getElem hn]
    exact List.getElem_mem _
  obtain ⟨_, _, h3, _⟩ := XF.parts (F.raise _ hD)
  have hk := F.kit hD hC
  unfold xV at hk
  rw [if_pos rfl] at hk
  have hcl : PE (X.suite a ((a, oe) :: pn)) (.Name vErr pc) (tC (.ty "ValueError")) := pe_bltn (X := X.suite a ((a, oe) :: pn)) (v := .ty "ValueError") (u := .type "ValueError") hgC hmV (by rfl) rfl
  refine pe_imp (pe_callB (X := X.suite a ((a, oe) :: pn)) (call_isE (X := X) (pn := pn) h3 hz.zc hf) hgi hmi boot_isinstance (pa_cons hx (pa_cons hcl pa_nil))) fun σ H Q q => ?_
  exact ⟨.ref a, q.1, .ty "ValueError", .type "ValueError", _, rfl, (fun u hu => hu), hk, q.2 _ H [] (Same.refl H) (RpL.at rfl) List.nodup_nil (fun x hx => by cases hx)⟩
/-! ### try: .. except C as e: m = what e is -/
def wTry (cm : CM) (Ds : List Str) (hc : Str) (i j : Nat) (res : Nat → D) (Wout : WX) (En : Ends) : WX := fun cls d σ H => ∃ n, n < Ds.length ∧ cls = .ref (cm.c n) ∧ d = none ∧
  (xIs (Ds.getD n "") hc = true → i < σ.length ∧ ∀ a v H' f, Same H H' → RpL cm H' [v] [res n] f → f.Nodup → (∀ x ∈ f, H x = none ∧ WrA H' x) → En.nx (((σ.set i (some (.ref a))).set j (some v)).set i none) H') ∧
  (xIs (Ds.getD n "") hc = false → Wout cls d σ H)
theorem ps_tryD {X : Cx} {cm : CM} {Wout : WX} {Ds Cs : List Str} {hc x m : Str} {i j : Nat} {res : Nat → D} {body : List Stmt} {tb : WX → TS} {e : Expr} {np pm pa pos pos' : Pos} (hcm : ∀ n, cm.c n = clsA X.K (Ds.getD n "")) (F : XF X.K X.mg Ds Cs) (hcC : hc ∈ Cs) (hcne : hc ≠ vErr)
    (hs : X.stack = X.env :: X.outer) (hf : X.env.frame = some X.env.locals) (hN : X.N.Nodup) (hi : X.N[i]? = some x) (hln : X.env.kindOf x = some .local) (hg : Gl X hc) (tk : L2N.Takes X Wout)
    (hb : ∀ (W : WX) (pn : List (Addr × Obj)) (xe : Value → Shared → Prop), L2N.Takes (X.tr pn xe) W → PassesOwn (model X.prog X.w) X.A X.env xe → PSs (X.tr pn xe) body (tb W))
    (hj : X.N[j]? = some m) (hjl : Loc X.env.scope m) (hjf : X.fn m = true ∨ X.env.scope.names.lookup m = some .local)
    (hsu : ∀ (a : Addr) (oe : Obj) (pn : List (Addr × Obj)) (n : Nat), n < Ds.length → L2N.Zn (.ref (clsA X.K (Ds.getD n ""))) none oe → (∃ vs, oe.data = .fields vs) → PE (X.suite a ((a, oe) :: pn)) e (tNew cm i a (res n)))
    (hsw : ∀ (a : Addr) (oe : Obj) (pn : List (Addr × Obj)), swapsWith e (some (.Name m pm)) pa.line (X.suite a ((a, oe) :: pn)).env = pure false := by intro _ _ _; rfl) (hdb : (hc == ("__debug__" : Str)) = false := by decide) :
    PS X (.Try body [.ExceptHandler (some (.Name hc np)) (some x) [.Assign [.Name m pm] e pa] pos'] [] [] pos) (fun D σ H => tb (wTry cm Ds hc i j res Wout D) D σ H) := by
  refine ⟨fun pins s σ H En I h => ?_⟩
  let V : WX := wTry cm Ds hc i j res Wout En
  let tb' : WX → TS := fun W D' σ H => (∀ cls d σ' H', V cls d σ' H' → W cls d σ' H') ∧ tb V D' σ H
  let ts : Addr → Value → Option Addr → TS := fun a cls d D' σ H => ∃ n, n < Ds.length ∧ cls = .ref (clsA X.K (Ds.getD n "")) ∧ d = none ∧ tAsg (tNew cm i a (res n)) (gName j) D' σ H
  have key := L2N.ps_try_as (X := X) (x := hc) (n := x) (c := .ref (clsA X.K hc)) (i := i) (body := body) (suite := []) (b₀ := .Assign [.Name m pm] e pa) (np := np) (pos := pos) (pos' := pos') (tb := tb') (ts := ts) (Wout := Wout) hs hf hN hi hln ⟨hg, hdb, .inl (F.gC hc hcC hcne)⟩ tk
    (fun W pn xe tkW ps => ⟨fun pins s σ H D' I q => (hb V pn xe (tkW.imp q.1) ps).run pins s σ H D' I q.2⟩)
    (fun a oe cls d pn hz hfl => ⟨fun pins s σ H D' I q => by
      obtain ⟨n, hn, rfl, rfl, q⟩ := q
      exact (pss_one (ps_set (X := X.suite a ((a, oe) :: pn)) (i := j) hN hj hjl (hsu a oe pn n hn hz hfl) (hsw a oe pn) hjf)).run pins s σ H D' I q⟩)
  refine key.run pins s σ H En I ⟨fun cls d σ' H' v => ?_, h⟩
  obtain ⟨n, hn, rfl, rfl, yes, no⟩ := v
  have hD : Ds.getD n "" ∈ Ds := by
    rw [List.getD_eq_getElem?_getD, List.getElem?_eq_getElem hn]
    exact List.getElem_mem _
  rw [hcm n] at no ⊢
  refine ⟨_, F.exm hD hcC hcne, fun z a ha => ?_, no⟩
  obtain ⟨lt, yes⟩ := yes z
  refine ⟨n, hn, rfl, rfl, ?_⟩
  refine ⟨List.getElem?_set_self lt, fun v H2 f sm r nd fr => ?_⟩
  exact yes a v H2 f sm r nd fr
def bTry (Ds : List Str) (hc : Str) (i j : Nat) (res : Nat → D) (o : Option Out) : Option Out := match o with
  | some (.ex n pl env') => match pl with
    | .non => if n < Ds.length then (if xIs (Ds.getD n "") hc = true then some (.nx (((env'.set i none).set j (some (res n))).set i none)) else some (.ex n .non env')) else none
    | _ => none
  | o => o
def XS.tryas (Ds : List Str) (hc : Str) (body : XS) (i j : Nat) (res : Nat → D) : XS where
  t p := fun En σ H => body.t ⟨wTry p.cm Ds hc i j res p.W En, p.cm⟩ En σ H
  f env := bTry Ds hc i j res (body.f env)
  mo c ms := match body.mo { c with mx := ms } ms with
    | none => none
    | some k => if wk ms c.mx && decide (i < ms.length) && decide (j < ms.length) && decide (i ≠ j) && wkO k (mergeM k (some ((ms.set i .dead).set j .own))) && wkO (some ((ms.set i .dead).set j .own)) (mergeM k (some ((ms.set i .dead).set j .own))) then some (mergeM k (some ((ms.set i .dead).set j .own))) else none
  ok p c ms k hm Z H σ env OW En E hP := by
    split at hm
    · cases hm
    next k1 h1 =>
    split at hm
    case isFalse => cases hm
    next hc2 =>
    cases hm
    simp only [Bool.and_eq_true, decide_eq_true_eq] at hc2
    obtain ⟨⟨⟨⟨⟨hx, hil⟩, hjl⟩, hij⟩, w1⟩, w2⟩ := hc2
    refine body.ok ⟨wTry p.cm Ds hc i j res p.W En, p.cm⟩ { c with mx := ms } ms k1 h1 Z H σ env OW En E ?_
    cases q : body.f env with
    | none => rw [q] at hP; exact hP
    | some o =>
      rw [q] at hP
      cases o with
      | nx env1 => exact PoS.more (p := p) (c := c) hP w1
      | rt d => exact hP
      | bk env1 => exact hP
      | ct env1 => exact hP
      | ex n pl env1 =>
        intro dd σ' H' Z' OW' fr st E' x
        cases pl with
        | non =>
          have hP : PoS p c (mergeM k1 (some ((ms.set i .dead).set j .own))) Z H OW (if n < Ds.length then (if xIs (Ds.getD n "") hc = true then some (.nx (((env1.set i none).set j (some (res n))).set i none)) else some (.ex n .non env1)) else none) En := hP
          split at hP
          case isFalse => exact hP.elim
          next hn =>
          obtain rfl : dd = none := x
          refine ⟨n, hn, rfl, rfl, fun z => ?_, fun z => ?_⟩
          · rw [if_pos z] at hP
            have hP := PoS.more hP w2
            obtain ⟨l1, l2⟩ := E'.sl.lens
            refine ⟨by have l1 : ms.length = σ'.length := l1; omega, fun a v H2 f sm r nd fr2 => ?_⟩
            have E2 := E'.same sm
            obtain ⟨o1, s1, b1, c1⟩ := E2.sl.kill i (some (.ref a)) none
            have E3 : ER p.cm (ms.set i .dead) Z' H2 (σ'.set i (some (.ref a))) (env1.set i none) o1 := ⟨s1, c1 E2.nd, fun x hx => E2.wr x (b1 x hx), fun x hx => E2.dis x (b1 x hx), E2.tr, E2.sub⟩
            have nz : ∀ x ∈ f, ¬ Z'.n x := fun x hx z => E'.tr x z (fr2 x hx).1
            have no1 : ∀ x ∈ f, x ∉ o1 := fun x hx z => by
              obtain ⟨u, e, _⟩ := E'.wr x (b1 x z)
              rw [(fr2 x hx).1] at e; cases e
            obtain ⟨o2, E4, b2⟩ := E3.put (i := j) (k := .own) (m := .own) (by rw [List.length_set]; exact hjl) r ⟨nd, fun x hx => ⟨no1 x hx, nz x hx, (fr2 x hx).2⟩⟩ rfl
            obtain ⟨o3, s3, b3, c3⟩ := E4.sl.kill i none none
            have hmd : ((ms.set i .dead).set j .own).set i .dead = (ms.set i .dead).set j .own := by
              rw [List.set_comm _ _ (Ne.symm hij), List.set_set]
            rw [hmd] at s3
            have E5 : ER p.cm ((ms.set i .dead).set j .own) Z' H2 (((σ'.set i (some (.ref a))).set j (some v)).set i none) (((env1.set i none).set j (some (res n))).set i none) o3 := ⟨s3, c3 E4.nd, fun x hx => E4.wr x (b3 x hx), fun x hx => E4.dis x (b3 x hx), E4.tr, E4.sub⟩
            refine hP _ rfl _ H2 Z' o3 (fr.trans st (Same.fr sm)) ?_ E5
            have s2 := st.trans (Stp.same sm)
            refine ⟨fun x hx => ?_, s2.n1, s2.s1, s2.n2, s2.s2, s2.gro⟩
            rcases b2 x (b3 x hx) with w | ⟨_, w⟩
            · exact s2.ow x (b1 x w)
            · exact .inr (hn_of st.gro (fr2 x w).1)
          · rw [if_neg (by rw [z]; exact Bool.false_ne_true)] at hP
            obtain ⟨Z3, OW3, E3, s3⟩ := E'.weak hx
            exact hP none σ' H' Z3 OW3 fr (st.trans s3) E3 rfl
        | _ => exact hP.elim
/-! ### defs that may raise, the law's def -/
section
variable {P : Program} {w : World} {K : PySem.W.Frag} {mg : Str → Option Value} {base : Heap}
theorem fn_okXN {cm : CM} {x qual : Str} {st : Stmt} {f : Addr} {fd : FuncData} {N ps : List Str} {k : Nat} {B : XS} {pk : List Bool} {rk : Kd} {m : Nat} {km : Option (List M)} (F : Fun K x qual st f fd) (S : FnScope N ps (defScope st))
    (hN : N.length = pk.length + m) (hp : ps.length = pk.length) (hm : B.mo (c0 rk (pk.length + m)) (ms0 pk m) = some km)
    (hb : ∀ (cdv : Value) (A : Around) (outer : List Env) (s : Shared) (H : Hp) (E : XK), Room k (A.deeper (envOfC qual (defScope st) s.heap.objs.size f cdv)) →
      ∃ t, PSs (cxOf (L2N.CX P w) P w K mg base N qual (defScope st) f cdv A outer s H E) (defBody st) t ∧ ∀ D σ H', B.t ⟨fun cls d _ H => E cls d H, cm⟩ D σ H' → t D σ H') :
    FnOk P w K mg base (L2N.CX P w) (k + 1) f fd ps (spP cm ⟨pk, rk, runD B m⟩) := by
  obtain ⟨oc, od, kV, doc, pm, an, cdv, ct, osl, rfl, lk, hcd⟩ := F.ex
  refine fn_of lk hcd S (fun vs H Q E h => by rw [hp]; exact spP_len h) fun A outer s H vs Q E hr h => ?_
  obtain ⟨t, ht, hq⟩ := hb cdv A outer s H E hr
  exact ⟨t, ht, hq _ _ _ (fn_body hm hN h)⟩
end
theorem takes0N {X : Cx} : L2N.Takes X (fun _ _ _ _ => False) := fun _ _ x => by
  obtain ⟨_, _, _, _, _, _, _, _, _, _, _, _, _, _, _, _, z⟩ := x
  exact z.elim
end DL
set_option maxRecDepth 100000
namespace DL
open PySem PySem.Spec PyProof.Rows L2
/-! ### xs[i] op= e, whole numbers -/
def rGetL (K : PySem.W.Frag) : V → V → Hp → VK → Prop := fun x y H Q => ∃ p xs i v, x = .ref p ∧ y = .int i ∧ SqL K H p xs ∧ atI xs i = some v ∧ Q v H
theorem pget_list {X : Cx} : PGet X (rGetL X.K) := by
  intro pins s σ H x y v u Q I rx ry h
  obtain ⟨p, xs, i, z, rfl, rfl, hq, he, q⟩ := h
  cases rx
  obtain ⟨t, rfl⟩ := ry
  obtain ⟨its, r, pl, hz⟩ := I.list hq
  obtain ⟨j, h1, h2, h3, h4, h5⟩ := atI_get he
  obtain ⟨w, ew, rw'⟩ := r.get h2
  have hl := r.length
  have hn := line63
  have fin : EP X pins σ Q w s := ⟨z, H, I, rw', q⟩
  by_cases h0 : 0 ≤ i
  · have hj : i.toNat = j := by
      rw [seqIndex_of h0 h5] at h1
      exact Option.some.inj h1
    exact wpAny_getItem_list pl.isList h0 (by omega) (by rw [hj]; simpa using ew) fin
  · have hj : (i + (its.toArray.size : Int)).toNat = j := by
      rw [seqIndex_neg (by omega) h4] at h1
      rw [List.size_toArray, ← hl]
      exact Option.some.inj h1
    exact wpAny_getItem_list_neg pl.isList (by omega) (by rw [List.size_toArray] <;> omega) (by omega) (by rw [hj]; simpa using ew) fin
theorem pget_listK {X : Cx} (K : PySem.W.Frag) (h : X.K = K := by rfl) : PGet X (rGetL K) := h ▸ pget_list
def itemAt (env : EnvD) (i : Nat) (path : List Nat) (k : D) : Option D := match atP env i path, k with
  | some (.lst ds), .int j => atI ds j
  | _, _ => none
def augF (o : IOp) (x y : D) (g : D → Option Out) : Option Out := match iopF o.g x y with
  | some (.ok z) => g z
  | _ => none
def XS.augs (o : IOp) (a : XP) (b e : XE) : XS where
  t p := tAugS (a.t p) (b.t p) (e.t p) (rGetL p.cm.K) (fun x y H Q => o.r x y H Q) rSetL
  f env := bPS (a.f env) env fun path => bS (b.f env) env fun k => match itemAt env a.i path k with
    | some x => bS (e.f env) env fun y => augF o x y fun z => chg env a.i path (setF z k)
    | none => none
  mo c ms := match a.mo ms with
    | none => none
    | some m1 => match b.mo m1 with
      | none => none
      | some (_, m2) => match e.mo m2 with
        | none => none
        | some (_, m3) => if wk ms c.mx && wk m1 c.mx && wk m2 c.mx && decide (m2[a.i]? = some .own) && decide (m3[a.i]? = some .own) then some (some m3) else none
  ok p c ms k hm Z H σ env OW En E hP := by
    split at hm
    · cases hm
    next m1 h1 =>
    split at hm
    · cases hm
    next k2 m2 h2 =>
    split at hm
    · cases hm
    next k3 m3 h3 =>
    split at hm
    case isFalse => cases hm
    next hc =>
    cases hm
    simp only [Bool.and_eq_true, decide_eq_true_eq] at hc
    obtain ⟨⟨⟨⟨hx, hx1⟩, hx2⟩, ho2⟩, ho⟩ := hc
    refine XP.stm (T := fun o1 H1 => b.t p σ H1 fun i H2 => rGetL p.cm.K o1 i H2 fun x H3 => e.t p σ H3 fun y H4 => o.r x y H4 fun z H5 => rSetL o1 i z H5 fun H6 => En.nx σ H6) a h1 hx E hP fun path v0 v' H1 Z1 OW1 q1 e1 s1 E1 hv fo hP1 => ?_
    have hP1 := PoS.after hP1 (Same.fr e1) s1
    refine XE.stm (T := fun i H2 => rGetL p.cm.K v' i H2 fun x H3 => e.t p σ H3 fun y H4 => o.r x y H4 fun z H5 => rSetL v' i z H5 fun H6 => En.nx σ H6) b h2 hx1 E1 hP1 fun kd kv H2 f2 Z2 OW2 q2 e2 s2 E2 r2 K2 hP2 => ?_
    have hP2 := PoS.after hP2 (Same.fr e2) s2
    have fo2 := fo.same e2
    cases qi : itemAt env a.i path kd with
    | none => rw [qi] at hP2; exact hP2.elim
    | some x =>
      rw [qi] at hP2
      have hP2 : PoS p c (some m3) Z2 H2 OW2 (bS (e.f env) env fun y => augF o x y fun z => chg env a.i path (setF z kd)) En := hP2
      unfold itemAt at qi
      cases qa : atP env a.i path with
      | none => rw [qa] at qi; cases qi
      | some dd =>
        rw [qa] at qi
        cases dd with
        | lst ds0 =>
          cases kd with
          | int ki =>
            have qi : atI ds0 ki = some x := qi
            obtain ⟨rfl, _⟩ := r2.int_of
            obtain ⟨g0, rg0, _⟩ := foc_at E2 ho2 qa hv fo2
            obtain ⟨bb, us0, g1, rfl, rd0, rr0, rfl⟩ := rg0.lst_of
            obtain ⟨vx, gx, ev, rx, _, _⟩ := atI_rp rr0 qi
            refine ⟨bb, us0, ki, vx, rfl, rfl, .inl rd0, ev, ?_⟩
            refine XE.stm (T := fun y H4 => o.r vx y H4 fun z H5 => rSetL (.ref bb) (.int ki) z H5 fun H6 => En.nx σ H6) e h3 hx2 E2 hP2 fun yd yv H3 f3 Z3 OW3 q3 e3 s3 E3 r3 K3 hP3 => ?_
            have hP0 : PoS p c (some m3) Z2 H2 OW2 (augF o x yd fun z => chg env a.i path (setF z (.int ki))) En := by
              rw [q3] at hP2; exact hP2
            unfold augF at hP3 hP0
            cases qo : iopF o.g x yd with
            | none => rw [qo] at hP3; exact hP3.elim
            | some r =>
              obtain ⟨i1, i2, zd, rfl, rfl, hg, rfl⟩ := iopF_of qo
              rw [qo] at hP3 hP0
              have hP3 : PoS p c (some m3) Z2 H2 OW2 (chg env a.i path (setF zd (.int ki))) En := hP3
              obtain ⟨rfl, rfl⟩ := rx.int_of
              obtain ⟨rfl, rfl⟩ := r3.int_of
              obtain ⟨vz, hvz, hr⟩ := o.ok i1 i2 zd hg
              refine hr H3 _ ?_
              have fo3 := fo2.same e3
              obtain ⟨d', d'', gg, qd, rgg, sg, ng, put⟩ := chg_ok hP3 e3 s3 E3 ho hv fo3
              cases d' with
              | lst ds =>
                have qd : ((ixN ds.length ki).bind fun j => if j < ds.length then some (D.lst (ds.set j zd)) else none) = some d'' := qd
                obtain ⟨j, qj, qd⟩ := Option.bind_eq_some_iff.mp qd
                split at qd
                case isFalse => cases qd
                next hj =>
                cases qd
                obtain ⟨b', us, g2, he, rd, rr, rfl⟩ := rgg.lst_of
                cases he
                have ex : H3 bb = some (.lst us) := rd_wr rd (E3.wr bb (sg bb List.mem_cons_self))
                refine ⟨bb, us, ki, j, rfl, rfl, ex, by rw [rr.length]; exact qj, ?_⟩
                have nb := List.nodup_cons.mp ng
                obtain ⟨f', ra, nf, sf⟩ := rr.setAt j _ (List.getElem?_eq_getElem hj) (RpL.at hvz) nb.2 List.nodup_nil fun x hx z => by cases hx
                have bf : bb ∉ f' := fun z => (sf bb z).elim nb.1 (fun z => by cases z)
                have fr : Fr [bb] H3 (upd H3 bb (.lst (us.set j vz))) := fun x u q hb => by
                  rw [upd_ne (fun z => hb (by rw [z]; exact List.mem_cons_self))]; exact q
                have wb : ∀ x ∈ [bb], WrA H3 x := fun x hx => by
                  have : x = bb := by simpa using hx
                  subst this; exact ⟨_, ex, trivial⟩
                have ra' := ra.aside (g := [bb]) fr (fun x hx z => by
                  have : x = bb := by simpa using z
                  subst this; exact bf hx) wb
                refine put _ (bb :: f') [] List.mem_cons_self trivial (RpL.lst1 (.inl upd_same) ra') (List.nodup_cons.mpr ⟨bf, nf⟩) (fun x hx => ?_) (fun x hx => by cases hx)
                rcases List.mem_cons.mp hx with rfl | hx
                · exact .inl List.mem_cons_self
                · exact (sf x hx).elim (fun z => .inl (List.mem_cons_of_mem _ z)) (fun z => by cases z)
              | _ => cases qd
          | _ => cases qi
        | _ => cases kd <;> cases qi
end DL
set_option maxRecDepth 100000
namespace DL
open PySem PySem.Spec PyProof.Rows L2
/-! ### sorted(d) of a dict by whole numbers -/
def keysI : List (Key × D) → Option (List Int)
  | [] => some []
  | (.inl k, _) :: kvs => (keysI kvs).map (k :: ·)
  | (.inr _, _) :: _ => none
theorem keysI_of : ∀ {kvs : List (Key × D)} {ks : List Int}, keysI kvs = some ks → kvs.map (·.1) = ks.map Sum.inl
  | [], ks, h => by cases h; rfl
  | (.inl k, v) :: kvs, ks, h => by
    obtain ⟨ks', h1, rfl⟩ := Option.map_eq_some_iff.mp h
    rw [List.map_cons, List.map_cons, keysI_of h1]
  | (.inr _, _) :: _, _, h => by cases h
def sortI (ks : List Int) : List Int := ks.mergeSort fun a b => decide (a ≤ b)
theorem sortI_perm (ks : List Int) : (sortI ks).Perm ks := List.mergeSort_perm _ _
theorem sortI_sorted (ks : List Int) : (sortI ks).Pairwise (· ≤ ·) := by
  have := List.pairwise_mergeSort (le := fun a b : Int => decide (a ≤ b)) (fun a b c h1 h2 => by simp at *; omega) (fun a b => by simp; omega) ks
  exact this.imp fun h => of_decide_eq_true h
theorem sortI_only {ks ys : List Int} (p : ys.Perm ks) (s : ys.Pairwise (· ≤ ·)) : ys = sortI ks :=
  List.Perm.eq_of_pairwise (le := (· ≤ ·)) (fun a b _ _ h1 h2 => by omega) s (sortI_sorted ks) (p.trans (sortI_perm ks).symm)
abbrev rSortDI : List V → Hp → VK → Prop := fun xs H Q => ∃ (a : Addr) (kvs : List (Key × V)) (ks : List Int), xs = [.ref a] ∧ Rd H a (.dK kvs) ∧ kvs.map (·.1) = ks.map Sum.inl ∧ ks.length < 64 ∧
    ∀ (ys : List Int) (p : Addr), ys.Perm ks → ys.Pairwise (· ≤ ·) → H p = none → Q (.ref p) (upd H p (.lst (ys.map V.int)))
def sortDF : List D → Option (R D)
  | [.dct kvs] => match keysI kvs with
    | some ks => if ks.length < 64 then some (.ok (.lst ((sortI ks).map .int))) else none
    | none => none
  | _ => none
theorem RpL.intsV {cm : CM} {H : Hp} : ∀ is : List Int, RpL cm H (is.map V.int) (is.map D.int) []
  | [] => .nil
  | i :: is => .atom rfl (RpL.intsV is)
def XE.sortd (as : XA) : XE where
  t p := tCB rSortDI (as.t p)
  f env := bL (as.f env) sortDF
  mo ms := match as.mo ms with
    | some (_, m1) => some (.own, m1)
    | none => none
  ok p ms k ms' hm Z H σ env OW Q E hP := by
    split at hm
    case h_2 => cases hm
    next k1 m1 e =>
    cases hm
    refine as.ok p ms k1 ms' e Z H σ env OW _ E ?_
    cases q : as.f env with
    | none => rw [q] at hP; exact hP
    | some r =>
      rw [q] at hP
      cases r with
      | ex c pl => exact hP
      | ok ds =>
        intro vs H1 f Z1 OW1 e1 s1 E1 r1 K1
        have hP : PoE p .own ms' Z H σ env OW (sortDF ds) Q := hP
        unfold sortDF at hP
        split at hP
        · next kvs =>
          split at hP
          · next ks hks =>
            split at hP
            · next h64 =>
              obtain ⟨v, rfl⟩ := r1.one_of
              obtain ⟨a, kv, g, rfl, rd, ek, _, _⟩ := r1.dct_of
              refine ⟨a, kv, ks, rfl, rd, ek.trans (keysI_of hks), h64, fun ys pp hp hs hn => ?_⟩
              obtain rfl := sortI_only hp hs
              have sm := same_upd (o := .lst ((sortI ks).map V.int)) hn
              have s2 := s1.trans (Stp.same sm)
              have E2 := E1.same sm
              refine hP (.ref pp) _ [pp] Z1 OW1 (e1.trans sm) s2 E2 (RpL.lst1 (.inl upd_same) (RpL.intsV _)) ⟨by simp, fun x hx => ?_⟩
              have : x = pp := by simpa using hx
              subst this
              refine ⟨fun z => ?_, fun z => E1.tr x z hn, .inr (hn_of s1.gro hn), ⟨_, upd_same, trivial⟩⟩
              obtain ⟨u, w, _⟩ := E1.wr x z
              rw [hn] at w; cases w
            · exact hP.elim
          · exact hP.elim
        · exact hP.elim
end DL
set_option maxRecDepth 100000
set_option maxHeartbeats 2000000
namespace DL
open PySem PySem.Spec PyProof.Rows L2
/-! ### defs that are handed the caught exception -/
theorem call_isP {X : Cx} {a D : Addr} {oe : Obj} (C : ExcC X.K D) (hp : (a, oe) ∈ X.pn) (hz : Zc (.ref D) none oe) (hf : ∃ vs, oe.data = .fields vs) : CallR X (.builtin "isinstance") (rIsE X.K D a) := by
  intro pins s σ H xs us Q I r h
  obtain ⟨c, cv, b, rfl, hcv, e, q⟩ := h
  cases r with
  | cons rx rr =>
    cases rr with
    | cons rt rr =>
      cases rr
      cases rx
      have ec := hcv _ rt
      subst ec
      obtain ⟨hget, _⟩ := I.pin (a, oe) (List.mem_append.mpr (.inl hp))
      obtain ⟨vs, hv⟩ := hf
      have J : PySem.W.InstAt s.heap a oe D none := by
        obtain ⟨oc, od, oda, osl⟩ := oe
        obtain ⟨h1, h2⟩ := hz
        dsimp only at h1 h2 hv
        subst h1 h2 hv
        exact ⟨hget, rfl, rfl, trivial⟩
      exact PySem.W.kia_one (PySem.W.handS_kitx_exc C.hg C.hk C.hs C.hd C.ha C.hn C.ht C.hm) I.kIn J e (fun z => nomatch z) fun tk => ⟨.bl b, H, I.kept (t' := tk) fun _ _ z => z, rfl, q⟩
section
variable {X : Cx} {cm : CM} {a : Addr} {oe : Obj} {i j n : Nat} {x C m : Str} {Ds Cs : List Str} {p px pc pos pos' pa pm : Pos}
theorem xD_mem (hn : n < Ds.length) : Ds.getD n "" ∈ Ds := by
  rw [List.getD_eq_getElem?_getD, List.getElem?_eq_getElem hn]
  exact List.getElem_mem _
theorem pe_isP (F : XF X.K X.mg Ds Cs) (hn : n < Ds.length) (hz : L2N.Zn (.ref (clsA X.K (Ds.getD n ""))) none oe) (hf : ∃ vs, oe.data = .fields vs) (hp : (a, oe) ∈ X.pn)
    (hC : C ∈ Cs) (hce : C ≠ vErr) (hx : PE X (.Name x px) (tVar i)) (hgi : Gl X "isinstance") (hmi : X.mg "isinstance" = none) (hgC : Gl X C) (hdb : (C == ("__debug__" : Str)) = false := by decide) :
    PE X (.Call (.Name "isinstance" p) [.Name x px, .Name C pc] [] pos) (tNew cm i a (.bl (xIs (Ds.getD n "") C))) := by
  obtain ⟨_, _, h3, _⟩ := XF.parts (F.raise _ (xD_mem hn))
  have hk := F.kit (xD_mem hn) hC
  unfold xV at hk
  rw [if_neg hce] at hk
  have hcl : PE X (.Name C pc) (tC (.ref (clsA X.K C))) := pe_glob (v := .ref (clsA X.K C)) (u := .ref (clsA X.K C)) hgC (F.gC C hC hce) rfl hdb
  refine pe_imp (pe_callB (call_isP h3 hp hz.zc hf) hgi hmi boot_isinstance (pa_cons hx (pa_cons hcl pa_nil))) fun σ H Q q => ?_
  exact ⟨.ref a, q.1, .ref (clsA X.K C), .ref (clsA X.K C), _, rfl, (fun u hu => hu), hk, q.2 _ H [] (Same.refl H) (RpL.at rfl) List.nodup_nil (fun x hx => by cases hx)⟩
theorem pe_isPV (F : XF X.K X.mg Ds Cs) (hn : n < Ds.length) (hz : L2N.Zn (.ref (clsA X.K (Ds.getD n ""))) none oe) (hf : ∃ vs, oe.data = .fields vs) (hp : (a, oe) ∈ X.pn)
    (hC : vErr ∈ Cs) (hx : PE X (.Name x px) (tVar i)) (hgi : Gl X "isinstance") (hmi : X.mg "isinstance" = none) (hgC : Gl X vErr) (hmV : X.mg vErr = none) :
    PE X (.Call (.Name "isinstance" p) [.Name x px, .Name vErr pc] [] pos) (tNew cm i a (.bl (xIs (Ds.getD n "") vErr))) := by
  obtain ⟨_, _, h3, _⟩ := XF.parts (F.raise _ (xD_mem hn))
  have hk := F.kit (xD_mem hn) hC
  unfold xV at hk
  rw [if_pos rfl] at hk
  have hcl : PE X (.Name vErr pc) (tC (.ty "ValueError")) := pe_bltn (v := .ty "ValueError") (u := .type "ValueError") hgC hmV (by rfl) rfl
  refine pe_imp (pe_callB (call_isP h3 hp hz.zc hf) hgi hmi boot_isinstance (pa_cons hx (pa_cons hcl pa_nil))) fun σ H Q q => ?_
  exact ⟨.ref a, q.1, .ty "ValueError", .type "ValueError", _, rfl, (fun u hu => hu), hk, q.2 _ H [] (Same.refl H) (RpL.at rfl) List.nodup_nil (fun x hx => by cases hx)⟩
/-- a display of such values -/
theorem pe_lstD {es : List Expr} {ds : List D} (h : PA X es (tNewA cm i a ds)) (hl : ds.length ≤ sizeLine) : PE X (.List es pos) (tNew cm i a (.lst ds)) :=
  pe_imp (pe_lst h) fun σ H Q q => ⟨q.1, fun vs H' sm r => ⟨by rw [r.length]; exact hl, fun p hp => by
    have e := same_upd (o := .lst vs) hp
    have hpn : H p = none := by
      cases z : H p with
      | none => rfl
      | some o => rw [sm _ _ z] at hp; cases hp
    exact q.2 (.ref p) _ [p] (sm.trans e) (RpL.lst1 (.inl upd_same) (r.same e)) (by simp) (fun x hx => by
      have : x = p := by simpa using hx
      subst this
      exact ⟨hpn, _, upd_same, trivial⟩)⟩⟩
/-- a test -/
def tTD (i : Nat) (a : Addr) (b : Bool) : TT := fun σ H Q => σ[i]? = some (some (.ref a)) ∧ ∀ H', Same H H' → Q b H'
theorem pt_imp {e : Expr} {t t' : TT} (h : PT X e t) (k : ∀ σ H Q, t' σ H Q → t σ H Q) : PT X e t' := ⟨fun pins s σ H Q I q => h.run pins s σ H Q I (k _ _ _ q)⟩
theorem pw_imp {e : Expr} {t t' : TT} (h : PW X e t) (k : ∀ σ H Q, t' σ H Q → t σ H Q) : PW X e t' := ⟨fun wh pins s σ H Q I q => h.run wh pins s σ H Q I (k _ _ _ q)⟩
theorem pt_valD {e : Expr} {b : Bool} (h : PE X e (tNew cm i a (.bl b))) (he : ∀ whole, isTrue e X.env whole = (do let v ← whole; standAt e.pos; holding [v] (truthy v)) := by intro _; rfl) : PT X e (tTD i a b) :=
  pt_imp (pt_val h he) fun σ H Q q => ⟨q.1, fun v H' f sm r nd fr => by
    obtain ⟨rfl, rfl⟩ := r.bl_of
    exact ⟨b, rfl, q.2 H' sm⟩⟩
theorem pw_or1D {e : Expr} {b : Bool} (h : PT X e (tTD i a b)) : PW X (.BoolOp .Or [e] pos) (tTD i a b) := pw_or1 h
theorem pw_orD {e e2 : Expr} {rest : List Expr} {b c : Bool} (h1 : PT X e (tTD i a b)) (h2 : PW X (.BoolOp .Or (e2 :: rest) pos) (tTD i a c)) : PW X (.BoolOp .Or (e :: e2 :: rest) pos) (tTD i a (b || c)) :=
  pw_imp (pw_or h1 h2) fun σ H Q q => ⟨q.1, fun H' sm => by
    cases b with
    | true => rw [if_pos rfl]; exact q.2 H' sm
    | false => rw [if_neg Bool.false_ne_true]; exact ⟨q.1, fun H2 sm2 => q.2 H2 (sm.trans sm2)⟩⟩
theorem pw_and1D {e : Expr} {b : Bool} (h : PT X e (tTD i a b)) : PW X (.BoolOp .And [e] pos) (tTD i a b) := pw_and1 h
theorem pw_andD {e e2 : Expr} {rest : List Expr} {b c : Bool} (h1 : PT X e (tTD i a b)) (h2 : PW X (.BoolOp .And (e2 :: rest) pos) (tTD i a c)) : PW X (.BoolOp .And (e :: e2 :: rest) pos) (tTD i a (b && c)) :=
  pw_imp (pw_and h1 h2) fun σ H Q q => ⟨q.1, fun H' sm => by
    cases b with
    | false => rw [if_neg Bool.false_ne_true]; exact q.2 H' sm
    | true => rw [if_pos rfl]; exact ⟨q.1, fun H2 sm2 => q.2 H2 (sm.trans sm2)⟩⟩
/-- return e -/
abbrev tRetD (cm : CM) (i : Nat) (a : Addr) (d : D) : TS := tRet (tNew cm i a d)
theorem pss_retD {e : Expr} {d : D} (h : PE X e (tNew cm i a d)) : PSs X [.Return (some e) pos] (tRetD cm i a d) := pss_one (ps_ret h)
/-- if c: (returns); the rest -/
theorem pss_ifD {c : Expr} {A rest : List Stmt} {b : Bool} {d1 d2 : D} (hc : PT X c (tTD i a b)) (h1 : PSs X A (tRetD cm i a d1)) (h2 : PSs X rest (tRetD cm i a d2)) : PSs X (.If c A [] pos :: rest) (tRetD cm i a (if b = true then d1 else d2)) :=
  pss_imp (pss_cons (ps_if hc h1 pss_nil) h2) fun En σ H q => by
    refine ⟨q.1, fun H' sm => ?_⟩
    have fin : ∀ {d : D}, (∀ v H' f, Same H H' → RpL cm H' [v] [d] f → f.Nodup → (∀ x ∈ f, H x = none ∧ WrA H' x) → En.rt v H') → tNew cm i a d σ H' En.rt := fun {d} q2 =>
      ⟨q.1, fun v H2 f sm2 r nd fr => q2 v H2 f (sm.trans sm2) r nd fun x hx => ⟨hn_of (Same.gro sm) (fr x hx).1, (fr x hx).2⟩⟩
    cases b with
    | true =>
      show (if (true : Bool) = true then _ else _)
      rw [if_pos rfl]
      exact fin q.2
    | false =>
      show (if (false : Bool) = true then _ else _)
      rw [if_neg Bool.false_ne_true]
      exact fin q.2
/-- a list in slot j so far -/
def tHas (cm : CM) (i j : Nat) (a : Addr) (H0 : Hp) (ds : List D) (d : D) : TS := fun En σ H => σ[i]? = some (some (.ref a)) ∧ Same H0 H ∧ (∃ v f, σ[j]? = some (some v) ∧ RpL cm H [v] [.lst ds] f) ∧ ∀ v H' f, Same H0 H' → RpL cm H' [v] [d] f → f.Nodup → (∀ x ∈ f, H0 x = none ∧ WrA H' x) → En.rt v H'
theorem pss_mkD {e : Expr} {ds : List D} {d : D} {rest : List Stmt} (hij : i ≠ j) (hN : X.N.Nodup) (hj : X.N[j]? = some m) (hjl : Loc X.env.scope m) (he : PE X e (tNew cm i a (.lst ds))) (hr : ∀ H0, PSs X rest (tHas cm i j a H0 ds d))
    (hs : swapsWith e (some (.Name m pm)) pa.line X.env = pure false := by rfl) (hf : X.fn m = true ∨ X.env.scope.names.lookup m = some .local := by first | exact .inl rfl | exact .inr rfl | assumption) :
    PSs X (.Assign [.Name m pm] e pa :: rest) (tRetD cm i a d) := by
  refine ⟨fun pins s σ H En I q => (pss_cons (ps_set hN hj hjl he hs hf) (hr H)).run pins s σ H En I ?_⟩
  have hlen : j < σ.length := by
    rw [I.len]
    exact (List.getElem?_eq_some_iff.mp hj).1
  refine ⟨q.1, fun v H' f sm r nd fr => ?_⟩
  exact ⟨by rw [List.getElem?_set_ne (Ne.symm hij)]; exact q.1, sm, ⟨v, f, List.getElem?_set_self hlen, r⟩, q.2⟩
theorem add_lists {K : PySem.W.Frag} {Q : VK} {v1 v2 : V} {ds es : List D} {f1 f2 : List Addr} {H : Hp} (r1 : RpL cm H [v1] [.lst ds] f1) (r2 : RpL cm H [v2] [.lst es] f2) (im1 : immL ds = true) (im2 : immL es = true) (hl : ds.length + es.length ≤ sizeLine)
    (q : ∀ v H' p, Same H H' → H p = none → RpL cm H' [v] [.lst (ds ++ es)] [p] → WrA H' p → Q v H') : rAddA K v1 v2 H Q := by
  obtain ⟨l1, us1, g1, rfl, rd1, rr1, rfl⟩ := r1.lst_of
  obtain ⟨l2, us2, g2, rfl, rd2, rr2, rfl⟩ := r2.lst_of
  have e1 := rr1.imm im1
  have e2 := rr2.imm im2
  subst e1 e2
  refine .inr (.inl ⟨l1, l2, us1, us2, rfl, rfl, rd1, rd2, by rw [rr1.length, rr2.length]; exact hl, fun p hp => ?_⟩)
  have sm := same_upd (o := .lst (us1 ++ us2)) hp
  exact q _ _ p sm hp (RpL.lst1 (.inl upd_same) (by have := (rr1.append rr2).same sm; simpa using this)) ⟨_, upd_same, trivial⟩
/-- m = m + [..] -/
theorem pss_addD {e1 : Expr} {es : List Expr} {pb pl : Pos} {ds bs : List D} {d : D} {rest : List Stmt} {H0 : Hp} (hij : i ≠ j) (hN : X.N.Nodup) (hj : X.N[j]? = some m) (hjl : Loc X.env.scope m) (hv : PE X e1 (tVar j)) (h : PA X es (tNewA cm i a bs)) (im1 : immL ds = true) (im2 : immL bs = true) (hl : ds.length + bs.length ≤ sizeLine)
    (hr : PSs X rest (tHas cm i j a H0 (ds ++ bs) d))
    (hs : swapsWith (.BinOp e1 .Add (.List es pl) pb) (some (.Name m pm)) pa.line X.env = pure false := by rfl) (hf : X.fn m = true ∨ X.env.scope.names.lookup m = some .local := by first | exact .inl rfl | exact .inr rfl | assumption) :
    PSs X (.Assign [.Name m pm] (.BinOp e1 .Add (.List es pl) pb) pa :: rest) (tHas cm i j a H0 ds d) := by
  have he : PE X (.BinOp e1 .Add (.List es pl) pb) (tOp (rAddA X.K) (tVar j) (tNew cm i a (.lst bs))) := pe_op (op_addK X.K) hv (pe_lstD h (by omega))
  refine ⟨fun pins s σ H En I q => (pss_cons (ps_set hN hj hjl he hs hf) hr).run pins s σ H En I ?_⟩
  have hlen : j < σ.length := by
    rw [I.len]
    exact (List.getElem?_eq_some_iff.mp hj).1
  obtain ⟨q1, q2, ⟨v, f, e, r⟩, q4⟩ := q
  refine ⟨v, e, q1, fun v2 H2 f2 sm2 r2 nd2 fr2 => ?_⟩
  refine add_lists (r.same sm2) r2 im1 im2 hl fun v3 H3 p sm3 hp r3 w3 => ?_
  exact ⟨by rw [List.getElem?_set_ne (Ne.symm hij)]; exact q1, (q2.trans sm2).trans sm3, ⟨v3, [p], List.getElem?_set_self hlen, r3⟩, q4⟩
/-- return m + [..] -/
theorem pss_retaddD {e1 : Expr} {es : List Expr} {pb pl : Pos} {ds bs : List D} {H0 : Hp} (hv : PE X e1 (tVar j)) (h : PA X es (tNewA cm i a bs)) (im1 : immL ds = true) (im2 : immL bs = true) (hl : ds.length + bs.length ≤ sizeLine) :
    PSs X [.Return (some (.BinOp e1 .Add (.List es pl) pb)) pos] (tHas cm i j a H0 ds (.lst (ds ++ bs))) := by
  have he : PE X (.BinOp e1 .Add (.List es pl) pb) (tOp (rAddA X.K) (tVar j) (tNew cm i a (.lst bs))) := pe_op (op_addK X.K) hv (pe_lstD h (by omega))
  refine pss_imp (pss_one (ps_ret he)) fun En σ H q => ?_
  obtain ⟨q1, q2, ⟨v, f, e, r⟩, q4⟩ := q
  refine ⟨v, e, q1, fun v2 H2 f2 sm2 r2 nd2 fr2 => ?_⟩
  refine add_lists (r.same sm2) r2 im1 im2 hl fun v3 H3 p sm3 hp r3 w3 => ?_
  refine q4 v3 H3 [p] ((q2.trans sm2).trans sm3) r3 (by simp) fun x hx => ?_
  have : x = p := by simpa using hx
  subst this
  exact ⟨hn_of (Same.gro (q2.trans sm2)) hp, w3⟩
end
/-! ### what such a def promises -/
structure FnP (P : Program) (w : World) (K : PySem.W.Frag) (mg : Str → Option Value) (base : Heap) (CX : CXT) (k : Nat) (f : Addr) (fd : FuncData) (ps : List Str) (sp : Addr × Obj → Sp) : Prop where
  len : ∀ p vs H Q E, sp p vs H Q E → vs.length = ps.length
  run : ∀ (A : Around) (outer : List Env) (s : Shared) (H : Hp) (args : Args) (us : List Value) (vs : List V) (Q : VK) (E : XK) (p : Addr × Obj), L2H.RoomH k A → L2H.Hot1 A p → L2H.PinOk outer H s p → Env0 P w K mg base A outer s H → BindsTo s fd args (ps.zip us) → Vals vs us → sp p vs H Q E →
    codeAny (model P w) A (.call (.ref f) args) (CR CX outer P w H s Q E) s
def spX (cm : CM) (Ds : List Str) (res : Nat → D) : Addr × Obj → Sp := fun p vs H Q _ => ∃ n, n < Ds.length ∧ L2N.Zn (.ref (cm.c n)) none p.2 ∧ (∃ vs, p.2.data = .fields vs) ∧ vs = [.ref p.1] ∧
  ∀ v H' f, Same H H' → RpL cm H' [v] [res n] f → f.Nodup → (∀ x ∈ f, H x = none ∧ WrA H' x) → Q v H'
theorem fn_okP {P : Program} {w : World} {K : PySem.W.Frag} {mg : Str → Option Value} {base : Heap} {CX : CXT} {cm : CM} {x qual y : Str} {st : Stmt} {f : Addr} {fd : FuncData} {N : List Str} {k : Nat} {Ds : List Str} {res : Nat → D} (F : Fun K x qual st f fd) (S : FnScope N [y] (defScope st)) (hcm : ∀ n, cm.c n = clsA K (Ds.getD n ""))
    (hb : ∀ (cdv : Value) (A : Around) (outer : List Env) (s : Shared) (H : Hp) (E : XK) (p : Addr × Obj) (n : Nat), n < Ds.length → L2N.Zn (.ref (clsA K (Ds.getD n ""))) none p.2 → (∃ vs, p.2.data = .fields vs) →
      PSs (L2H.cxH CX P w K mg base N qual (defScope st) f cdv A outer s H E p) (defBody st) (tRetD cm 0 p.1 (res n))) :
    FnP P w K mg base CX (k + 1) f fd [y] (spX cm Ds res) := by
  obtain ⟨oc, od, kV, doc, pm, an, cdv, ct, osl, rfl, lk, hcd⟩ := F.ex
  refine ⟨fun p vs H Q E h => by obtain ⟨n, _, _, _, rfl, _⟩ := h; rfl, fun A outer s H args us vs Q E p hr hot hpin e0 hbd r hsp => ?_⟩
  obtain ⟨n, hn, hz, hf, rfl, hq⟩ := hsp
  have KX : K.In s.heap := e0.mod.kin.keeps fun b o e => (e0.bs b o e).1
  have lim : s.heap.NoLimit := e0.mod.nolimit.keeps fun b o e => (e0.bs b o e).1
  have hkind : ∀ z ∈ ([y] : List Str).zip us, (defScope st).names.lookup z.1 = some .local ∨ ((defScope st).names.lookup z.1 = some .cell ∧ ((cellsFrom (s.heap.objs.size + 1) (defScope st).names []).lookup z.1).isSome = true) := fun ⟨n, v⟩ hy => by
    rcases S.par n (List.of_mem_zip hy).1 with q | q
    · exact .inl q
    · exact .inr ⟨q, PySem.W.cellsFrom_some _ _ _ (.inl q)⟩
  refine codeAny_call_function hr.depth (KX _ _ lk) rfl S.co S.gen rfl (PySem.W.codeRec_of KX hcd) (hbd _ _ _ _ ?_)
  refine wpAny_newFunctionEnv_cells S.kind hkind fun env he s1 xx => ?_
  subst he
  refine ⟨lim.keeps xx.toInCall.keep, codeAny_func ?_⟩
  rw [hcm n] at hz
  have ht := hb cdv A outer s H E p n hn hz hf
  have I : Inv (L2H.cxH CX P w K mg base N qual (defScope st) f cdv A outer s H E p) [] (L2.start N [.ref p.1]) H s1 := L2H.inv_startH S hpin e0 rfl r xx
  refine wpAny_mono (ht.run [] s1 (L2.start N [.ref p.1]) H { nx := fun _ H' => Q .non H', rt := Q } I ⟨rfl, hq⟩) (fun fl s' hs => ?_) fun e s' hs => hs
  have fin : ∀ {σ' : L2.St} {H' : Hp} {v : V} {u : Value}, Inv (L2H.cxH CX P w K mg base N qual (defScope st) f cdv A outer s H E p) [] σ' H' s' → RelV v u → Q v H' → CE outer P w H s Q u s' :=
    fun {σ' H' v u} J rv q => ⟨v, H', J.os, J.bare, J.base, J.hok, rv, q⟩
  cases fl with
  | ret u =>
    obtain ⟨v, σ', H', J, rv, q⟩ := hs
    exact fin J rv q
  | next =>
    obtain ⟨σ', H', J, q⟩ := hs
    exact fin (v := V.non) (u := Value.none) J rfl q
  | brk =>
    obtain ⟨_, _, _, q⟩ := hs
    exact False.elim q
  | cont =>
    obtain ⟨_, _, _, q⟩ := hs
    exact False.elim q
/-- f(e) in the suite -/
theorem pe_callP {X : Cx} {cm : CM} {a : Addr} {oe : Obj} {pn : List (Addr × Obj)} {i n k : Nat} {x y y' : Str} {f : Addr} {fd : FuncData} {q px pos : Pos} {Ds : List Str} {res : Nat → D} (F : FnP X.prog X.w X.K X.mg X.base (L2N.CX X.prog X.w) k f fd [y] (spX cm Ds res)) (hcm : ∀ n, cm.c n = clsA X.K (Ds.getD n "")) (hr : Room k X.A)
    (hn : n < Ds.length) (hz : L2N.Zn (.ref (clsA X.K (Ds.getD n ""))) none oe) (hf : ∃ vs, oe.data = .fields vs) (hx : PE (X.suite a ((a, oe) :: pn)) (.Name x px) (tVar i)) (hg : Gl X y') (hm : X.mg y' = some (.ref f)) (hk : PySem.W.keepIn X.K (.ref f) = true) (hb : Binds X.K fd [y] []) (hdb : (y' == ("__debug__" : Str)) = false := by decide) :
    PE (X.suite a ((a, oe) :: pn)) (.Call (.Name y' q) [.Name x px] [] pos) (tNew cm i a (res n)) := by
  refine ⟨fun pins s σ H Q I h => ?_⟩
  obtain ⟨h1, h2⟩ := h
  have ha : PA (X.suite a ((a, oe) :: pn)) [.Name x px] (tCons (tVar i) tNil) := pa_cons hx pa_nil
  refine wpAny_Call_Name_kw (ld_glob I hg hm ?_ hdb)
  refine PySem.W.callWith_K (h₀ := X.base) I.ok.mod.kin hk (thn (ha.run pos pins s σ H (fun vs H1 => vs = [.ref a] ∧ H = H1) I ⟨.ref a, h1, rfl, rfl⟩) fun us s1 hh => ?_) rfl rfl
  obtain ⟨vs, H1, I1, r, rfl, rfl⟩ := hh
  refine ⟨I1.kIn, ?_⟩
  obtain ⟨fvs, hfd⟩ := hf
  have hot : L2H.Hot1 (X.suite a ((a, oe) :: pn)).A (a, oe) := ⟨rfl, fvs, hfd, hz.2.2 fvs hfd⟩
  have hl : us.length = 1 := by rw [← r.length]; rfl
  have b := hb s1 us I1.kIn (by rw [List.append_nil]; exact hl)
  rw [List.append_nil] at b
  have P1 := I1.pin (a, oe) (List.mem_append_left _ List.mem_cons_self)
  have hpin : L2H.PinOk (X.suite a ((a, oe) :: pn)).stack H s1 (a, oe) := ⟨P1.1, P1.2.1, fun hm => (List.mem_cons.mp (I1.stkSub a hm)).elim P1.2.2.1 P1.2.2.2.1, P1.2.2.2.2⟩
  refine wpAny_call (codeAny_mono (F.run (X.suite a ((a, oe) :: pn)).A (X.suite a ((a, oe) :: pn)).stack s1 H ⟨us, []⟩ us [.ref a] Q (fun _ _ _ => False) (a, oe) ⟨hr.dp, hr.un⟩ hot hpin I1.env0 b r ⟨n, hn, by rw [hcm n]; exact hz, ⟨fvs, hfd⟩, rfl, h2⟩) fun r s' hq => ?_)
  cases r with
  | error e =>
    obtain ⟨_, _, _, _, _, _, _, _, _, _, _, _, z⟩ := hq
    exact z.elim
  | ok fl =>
    cases fl with
    | ret u => exact I1.after hq
    | next => exact False.elim hq
    | brk => exact False.elim hq
    | cont => exact False.elim hq
end DL
set_option maxRecDepth 100000
namespace DL
open PySem PySem.Spec PyProof.Rows L2
def takeF (x y : D) : Option (R D) := match x, y with
  | .tup xs, .int i => (atI xs i).map .ok
  | _, _ => none
/-- one item of an owned tuple, its own from here on; the rest of it is given up -/
def XE.take (i : Nat) (b : XE) : XE where
  t p := tOp (rIx p.cm.K) (tVar i) (b.t p)
  f env := b2 (eget env i) (b.f env) takeF
  mo ms := if ms[i]? = some .own then match b.mo (ms.set i .dead) with
    | none => none
    | some (_, m2) => some (.own, m2) else none
  ok p ms k ms' hm Z H σ env OW Q E hP := by
    split at hm
    case isFalse => cases hm
    next hown =>
    split at hm
    · cases hm
    next k2 m2 h2 =>
    cases hm
    obtain ⟨v, d, f, OW1, e1, e2, r, s', z1, z2, z3⟩ := E.sl.move i hown
    obtain ⟨n1, n2, n3⟩ := z3 E.nd
    have eg : eget env i = some (.ok d) := by unfold eget; rw [e2]
    rw [eg] at hP
    have E1 : ER p.cm (ms.set i .dead) Z H σ env OW1 := ⟨s', n2, fun x hx => E.wr x (z2 x hx), fun x hx => E.dis x (z2 x hx), E.tr, E.sub⟩
    have s1 : Stp Z OW H Z OW1 H := ⟨fun a ha => .inl (z2 a ha), fun _ h => h, fun _ h => h, fun _ h => .inl h, fun _ h => .inl h, fun _ h => h⟩
    have K1 : KdOk .own OW H Z OW1 H f := ⟨n1, fun a ha => ⟨n3 a ha, E.dis a (z1 a ha), .inl (z1 a ha), E.wr a (z1 a ha)⟩⟩
    refine ⟨v, e1, ?_⟩
    refine b.ok p (ms.set i .dead) k2 ms' h2 Z H σ env OW1 _ E1 ?_
    cases q2 : b.f env with
    | none => rw [q2] at hP; exact hP
    | some r2 =>
      rw [q2] at hP
      cases r2 with
      | ex c pl => exact fun dd H' e' x => hP dd H' e' x
      | ok y =>
        intro vy H2 f2 Z2 OW2 eS s2 E2 r2 K2
        have hP : PoE p .own ms' Z H σ env OW (takeF d y) Q := hP
        cases d with
        | tup xs =>
          cases y with
          | int j =>
            obtain ⟨rfl, rfl⟩ := r2.int_of
            have hP : PoE p .own ms' Z H σ env OW ((atI xs j).map .ok) Q := hP
            cases q : atI xs j with
            | none => rw [q] at hP; exact hP.elim
            | some dx =>
              rw [q] at hP
              have r' := r.same eS
              have K3 := K1.later r.trk s2 eS
              obtain ⟨l, us, rfl, rd, rr⟩ := r'.tup_of
              obtain ⟨vx, g', ev, rv, sub, nd⟩ := atI_rp rr q
              exact .inr (.inl ⟨l, us, j, vx, rfl, rfl, .inl rd, ev, hP vx H2 g' Z2 OW2 eS (s1.trans s2) E2 rv (K3.part sub nd)⟩)
          | _ => exact hP.elim
        | _ => cases y <;> exact hP.elim
end DL
set_option maxRecDepth 100000
namespace DL
open PySem PySem.Spec PyProof.Rows L2
def rowsOk (ds : List D) : Bool := ds.all fun d => match d with
  | .lst es => decide (es.length < sizeLine)
  | _ => false
def rowAp (n : Int) : D → D
  | .lst es => .lst (es ++ [.int n])
  | d => d
/-- the first k rows have got it -/
def rowsTo (n : Int) (ds : List D) (k : Nat) : List D := (ds.take k).map (rowAp n) ++ ds.drop k
theorem rowsTo_get {n : Int} {ds : List D} {k : Nat} (h : k < ds.length) : (rowsTo n ds k)[k]? = some ds[k] := by
  unfold rowsTo
  rw [List.getElem?_append_right (by simp; omega)]
  simp [show min k ds.length = k by omega, h]
theorem rowsTo_len (n : Int) (ds : List D) (k : Nat) : (rowsTo n ds k).length = ds.length := by
  unfold rowsTo; simp; omega
theorem rowsTo_set {n : Int} {ds : List D} {k : Nat} (h : k < ds.length) : (rowsTo n ds k).set k (rowAp n ds[k]) = rowsTo n ds (k + 1) := by
  unfold rowsTo
  have e : ((ds.take k).map (rowAp n)).length = k := by simp; omega
  rw [List.set_append_right _ _ (by omega), e, Nat.sub_self, List.drop_eq_getElem_cons h, List.set_cons_zero, List.take_succ_eq_append_getElem h, List.map_append, List.append_assoc]
  rfl
/-- for x in xs: x.append(n) -/
def XS.forapp (i j : Nat) (n : Int) : XS where
  t p := tFor (iSeq p.cm.K (tVar i)) (gName j) (tDrop (tBM p.cm.K "list" rAppend (tVar j) (tCons (tC (.int n)) tNil)))
  f env := match eget env i with
    | some (.ok (.lst ds)) => if rowsOk ds then some (.nx ((env.set i (some (.lst (ds.map (rowAp n))))).set j none)) else none
    | _ => none
  mo c ms := if ms[i]? = some .own ∧ i ≠ j ∧ j < ms.length then some (some (ms.set j .dead)) else none
  ok p c ms k hm Z H σ env OW En E hP := by
    split at hm
    case isFalse => cases hm
    next hc =>
    cases hm
    obtain ⟨hown, hij, hj⟩ := hc
    obtain ⟨v, d, f, e1, e2, r, _, _, r4⟩ := E.sl.at i _ hown (by intro z; cases z)
    have eg : eget env i = some (.ok d) := by unfold eget; rw [e2]
    rw [eg] at hP
    cases d with
    | lst ds =>
      have hP : PoS p c (some (ms.set j .dead)) Z H OW (if rowsOk ds then some (.nx ((env.set i (some (.lst (ds.map (rowAp n))))).set j none)) else none) En := hP
      split at hP
      case isFalse => exact hP.elim
      next hrows =>
      obtain ⟨a, us, ga, rfl, rd, rr, rfl⟩ := r.lst_of
      have aO : a ∈ OW := (r4 rfl).1 a List.mem_cons_self
      have ra : H a = some (.lst us) := rd_wr rd (E.wr a aO)
      have hown' : (ms.set j .dead)[i]? = some .own := by rw [List.getElem?_set_ne (fun z => hij z.symm)]; exact hown
      have lenv : i < env.length := by
        rcases Nat.lt_or_ge i env.length with h | h
        · exact h
        · rw [List.getElem?_eq_none h] at e2; cases e2
      have hj0 : ∀ x : Option V, ∀ {Z' H' σ' env' OW'}, ER p.cm ms Z' H' σ' env' OW' ∨ ER p.cm (ms.set j .dead) Z' H' σ' env' OW' → ∃ o, ER p.cm (ms.set j .dead) Z' H' (σ'.set j x) (env'.set j none) o ∧ ∀ y ∈ o, y ∈ OW' := by
        intro x Z' H' σ' env' OW' hE
        rcases hE with E' | E'
        · obtain ⟨o, s, so, sn⟩ := E'.sl.kill j x none
          exact ⟨o, ⟨s, sn E'.nd, fun y hy => E'.wr y (so y hy), fun y hy => E'.dis y (so y hy), E'.tr, E'.sub⟩, so⟩
        · obtain ⟨o, s, so, sn⟩ := E'.sl.kill j x none
          rw [List.set_set] at s
          exact ⟨o, ⟨s, sn E'.nd, fun y hy => E'.wr y (so y hy), fun y hy => E'.dis y (so y hy), E'.tr, E'.sub⟩, so⟩
      refine ⟨.ref a, e1, a, rfl, .inl ⟨⟨us, .inl rd⟩, ?_⟩⟩
      -- at the start the slot of x is given up
      obtain ⟨O0, s0, so0, sn0⟩ := E.sl.kill j (σ[j]?.getD none) none
      have eσ : σ.set j (σ[j]?.getD none) = σ := by
        rcases Nat.lt_or_ge j σ.length with h | h
        · rw [List.getElem?_eq_getElem h]; simp
        · exact List.set_eq_of_length_le h
      rw [eσ] at s0
      have E0 : ER p.cm (ms.set j .dead) Z H σ ((env.set i (some (.lst (rowsTo n ds 0)))).set j none) O0 := by
        have e0 : env.set i (some (.lst (rowsTo n ds 0))) = env := by
          have : rowsTo n ds 0 = ds := by unfold rowsTo; simp
          rw [this]
          exact set_self_of e2
        rw [e0]
        exact ⟨s0, sn0 E.nd, fun y hy => E.wr y (so0 y hy), fun y hy => E.dis y (so0 y hy), E.tr, E.sub⟩
      have st0 : Stp Z OW H Z O0 H := ⟨fun x hx => .inl (so0 x hx), fun _ h => h, fun _ h => h, fun _ h => .inl h, fun _ h => .inl h, fun _ h => h⟩
      refine ⟨fun k m σ' H' => m = ds.length - k ∧ k ≤ ds.length ∧ ∃ OW', Fr OW H H' ∧ Stp Z OW H Z OW' H' ∧ ER p.cm (ms.set j .dead) Z H' σ' ((env.set i (some (.lst (rowsTo n ds k)))).set j none) OW' ∧ H' a = some (.lst us) ∧ σ'[i]? = some (some (.ref a)),
        ⟨ds.length, by simp, Nat.zero_le _, O0, (fun _ _ h _ => h), st0, E0, ra, e1⟩, ?_⟩
      rintro k m σ' H' ⟨rfl, hk, OW', fr, st, E', ra', sa'⟩
      by_cases hlt : k < ds.length
      · right
        have hul : us.length = ds.length := rr.length
        have eu0 : us[k]? = some us[k] := List.getElem?_eq_getElem (by omega)
        refine ⟨⟨us, us[k]'(by omega), .inl (.inl ra'), eu0⟩, fun σ'' H'' => ds.length - (k + 1) = ds.length - (k + 1) ∧ k + 1 ≤ ds.length ∧ ∃ OW', Fr OW H H'' ∧ Stp Z OW H Z OW' H'' ∧ ER p.cm (ms.set j .dead) Z H'' σ'' ((env.set i (some (.lst (rowsTo n ds (k + 1))))).set j none) OW' ∧ H'' a = some (.lst us) ∧ σ''[i]? = some (some (.ref a)), fun σ'' H'' hN => ⟨ds.length - (k + 1), by omega, hN⟩, fun x H2 hy => ?_⟩
        obtain ⟨rfl, hy⟩ := hy
        have hxu := hy us (.inl (.inl ra'))
        rw [eu0] at hxu
        cases hxu
        -- x is bound
        obtain ⟨o, E2, so⟩ := hj0 (some us[k]) (.inr E')
        rw [List.set_set] at E2
        have sj : j < σ'.length := by
          have := E'.sl.lens.1
          rw [List.length_set] at this; omega
        have sv : (σ'.set j (some us[k]))[j]? = some (some us[k]) := List.getElem?_set_self sj
        have si : (σ'.set j (some us[k]))[i]? = some (some (.ref a)) := by rw [List.getElem?_set_ne (fun z => hij z.symm)]; exact sa'
        have ei : ((env.set i (some (.lst (rowsTo n ds k)))).set j none)[i]? = some (some (.lst (rowsTo n ds k))) := by
          rw [List.getElem?_set_ne (fun z => hij z.symm), List.getElem?_set_self lenv]
        obtain ⟨v', dd, f', q1, q2, r', _, _, r4'⟩ := E2.sl.at i _ hown' (by intro z; cases z)
        rw [si] at q1; cases q1
        rw [ei] at q2; cases q2
        obtain ⟨nd'⟩ : Nonempty f'.Nodup := ⟨(r4' rfl).2 E2.nd⟩
        have sub' := (r4' rfl).1
        obtain ⟨a', us', g0, he, rd', rr', rfl⟩ := r'.lst_of
        cases he
        have : us' = us := by
          have h1 := rd_wr rd' (E2.wr a (sub' a List.mem_cons_self))
          rw [ra'] at h1; cases h1; rfl
        subst this
        obtain ⟨w, f1, g, f2, hw, hg0, rw_, _⟩ := rr'.item k ds[k] (rowsTo_get hlt)
        rw [eu0] at hw
        cases hw
        have hrow : ∃ es, ds[k] = .lst es ∧ es.length < sizeLine := by
          have := List.all_eq_true.mp hrows ds[k] (List.getElem_mem hlt)
          split at this
          · next es h => exact ⟨es, h, of_decide_eq_true this⟩
          · cases this
        obtain ⟨es, hes, hel⟩ := hrow
        have hrw := rw_
        rw [hes] at hrw
        obtain ⟨b, vs, g', hb, rdb, rrb, rfl⟩ := hrw.lst_of
        have ba : b ≠ a := fun z => (List.nodup_cons.mp nd').1 (by rw [hg0, ← z]; simp)
        have fo : FocV H2 (.ref a) [k] (.ref b) := .lst rd' (hb ▸ eu0) .nil
        have gp : getP (.lst (rowsTo n ds k)) [k] = some (.lst es) := by
          show ((rowsTo n ds k)[k]?).bind (fun e => getP e []) = _
          rw [rowsTo_get hlt, hes]; rfl
        obtain ⟨gg, rg, sg, ng, put⟩ := E2.change hown' ei gp si fo
        obtain ⟨b', vs2, g2, he2, rd2, rr2, rfl⟩ := rg.lst_of
        cases he2
        have bO := sg b List.mem_cons_self
        have ex : H2 b = some (.lst vs2) := rd_wr rd2 (E2.wr b bO)
        have nb := List.nodup_cons.mp ng
        have frb : Fr [b] H2 (upd H2 b (.lst (vs2 ++ [V.int n]))) := fun x u q hx => by
          rw [upd_ne (fun z => hx (by rw [z]; exact List.mem_cons_self))]; exact q
        have wb : ∀ x ∈ [b], WrA H2 x := fun x hx => by
          have : x = b := by simpa using hx
          subst this; exact ⟨_, ex, trivial⟩
        have ap : RpL p.cm H2 [V.int n] [D.int n] [] := .atom rfl .nil
        have r5 := (rr2.append ap).aside (g := [b]) frb (fun x hx z => by
          have : x = b := by simpa using z
          subst this
          rw [List.append_nil] at hx
          exact nb.1 hx) wb
        obtain ⟨OW3, E3, sO, fr3, st3⟩ := put (.lst (vs2 ++ [V.int n])) (.lst (es ++ [D.int n])) (b :: (g2 ++ [])) [] List.mem_cons_self trivial (RpL.lst1 (.inl upd_same) r5) (by rw [List.append_nil]; exact ng) (fun x hx => .inl (by rw [List.append_nil] at hx; exact hx)) (fun x hx => by cases hx)
        have eset : (((env.set i (some (.lst (rowsTo n ds k)))).set j none).set i (some (setP (.lst (rowsTo n ds k)) [k] (.lst (es ++ [.int n]))))) = (env.set i (some (.lst (rowsTo n ds (k + 1))))).set j none := by
          have e5 : setP (.lst (rowsTo n ds k)) [k] (.lst (es ++ [.int n])) = .lst (rowsTo n ds (k + 1)) := by
            show (match (rowsTo n ds k)[k]? with | some e => D.lst ((rowsTo n ds k).set k (setP e [] (.lst (es ++ [D.int n])))) | none => .lst (rowsTo n ds k)) = _
            rw [rowsTo_get hlt]
            show D.lst ((rowsTo n ds k).set k (setP ds[k] [] (.lst (es ++ [D.int n])))) = _
            have : setP ds[k] [] (.lst (es ++ [D.int n])) = rowAp n ds[k] := by rw [hes]; rfl
            rw [this, rowsTo_set hlt]
          rw [e5, List.set_comm _ _ (fun z => hij z.symm), List.set_set]
        rw [eset] at E3
        have st2 : Stp Z OW H Z o H2 := ⟨fun x hx => st.ow x (so x hx), st.n1, st.s1, st.n2, st.s2, st.gro⟩
        have vb : us'[k] = .ref b := hb
        refine ⟨us'[k], sv, ?_⟩
        rw [vb]
        refine ⟨.inl ⟨rfl, vs2, .inl (.inl ex)⟩, b, vs2, V.int n, rfl, rfl, ex, ?_, rfl, hlt, OW3, Fr.trans fr st2 fr3, st2.trans ⟨fun x hx => (sO x hx).elim .inl (fun z => by cases z), st3.n1, st3.s1, st3.n2, st3.s2, st3.gro⟩, ?_, ?_, ?_⟩
        · rw [rr2.length]; exact hel
        · rw [vb] at E3; exact E3
        · rw [upd_ne ba.symm]; exact ra'
        · rw [vb] at si; exact si
      · left
        have e : k = ds.length := by omega
        subst e
        have em : rowsTo n ds ds.length = ds.map (rowAp n) := by unfold rowsTo; simp
        rw [em] at E'
        exact ⟨⟨us, .inl (.inl ra'), by rw [rr.length]; exact Nat.le_refl _⟩, hP _ rfl σ' H' Z OW' fr st E'⟩
    | _ => exact hP.elim
end DL
set_option maxRecDepth 100000
namespace DL
open PySem PySem.Spec PyProof.Rows L2
/-- of what is never asked for all is shown -/
theorem pss_false {X : Cx} {st : List Stmt} : PSs X st (fun _ _ _ => False) := ⟨fun _ _ _ _ _ _ h => h.elim⟩
/-! ### what leaves a slot as it is -/
def MonoE (t : TE) : Prop := ∀ σ H (Q Q' : VK), (∀ v H', Q v H' → Q' v H') → t σ H Q → t σ H Q'
def MonoT (t : TT) : Prop := ∀ σ H (Q Q' : Bool → Hp → Prop), (∀ v H', Q v H' → Q' v H') → t σ H Q → t σ H Q'
def MonoA (t : TA) : Prop := ∀ σ H (Q Q' : List V → Hp → Prop), (∀ v H', Q v H' → Q' v H') → t σ H Q → t σ H Q'
def MonoR (r : R2) : Prop := ∀ x y H (Q Q' : VK), (∀ v H', Q v H' → Q' v H') → r x y H Q → r x y H Q'
def KeepG (i : Nat) (t : TS) : Prop := ∀ (En : Ends) (N N' C C' B B' : L2.St → Hp → Prop) σ H, t { En with nx := N, ct := C, bk := B } σ H →
  (∀ σ2 H2, σ2[i]? = σ[i]? → N σ2 H2 → N' σ2 H2) → (∀ σ2 H2, σ2[i]? = σ[i]? → C σ2 H2 → C' σ2 H2) → (∀ σ2 H2, σ2[i]? = σ[i]? → B σ2 H2 → B' σ2 H2) → t { En with nx := N', ct := C', bk := B' } σ H
theorem KeepG.s {i : Nat} {t : TS} (h : KeepG i t) : KeepS i t := fun En N N' B B' σ H q hN hB => h En N N' N N' B B' σ H q hN hN hB
section
variable {i : Nat} {p : Pm}
theorem kg_skip : KeepG i (XS.skip.t p) := fun En N N' C C' B B' σ H q hN _ _ => hN σ H rfl q
theorem kg_ret {e : XE} : KeepG i ((XS.ret e).t p) := fun En N N' C C' B B' σ H q _ _ _ => q
theorem kg_seq {a b : XS} (ha : KeepG i (a.t p)) (hb : KeepG i (b.t p)) : KeepG i ((XS.seq a b).t p) := fun En N N' C C' B B' σ H q hN hC hB => by
  have q : (a.t p) { En with nx := (b.t p) { En with nx := N, ct := C, bk := B }, ct := C, bk := B } σ H := q
  exact ha En _ _ C C' B B' σ H q (fun σ2 H2 e q2 => hb En N N' C C' B B' σ2 H2 q2 (fun σ3 H3 e3 => hN σ3 H3 (e3.trans e)) (fun σ3 H3 e3 => hC σ3 H3 (e3.trans e)) (fun σ3 H3 e3 => hB σ3 H3 (e3.trans e))) hC hB
theorem kg_ite {c : XT} {a b : XS} (hc : MonoT (c.t p)) (ha : KeepG i (a.t p)) (hb : KeepG i (b.t p)) : KeepG i ((XS.ite c a b).t p) := fun En N N' C C' B B' σ H q hN hC hB => by
  refine hc σ H _ _ (fun v H' => ?_) q
  intro q2
  cases v with
  | true => exact ha En N N' C C' B B' σ H' q2 hN hC hB
  | false => exact hb En N N' C C' B B' σ H' q2 hN hC hB
theorem mt_v {e : XE} (h : MonoE (e.t p)) : MonoT ((XT.v e).t p) := fun σ H Q Q' k q => h σ H _ _ (fun v H' ⟨c, e, z⟩ => ⟨c, e, k _ _ z⟩) q
theorem mt_not {a : XT} (h : MonoT (a.t p)) : MonoT ((XT.not a).t p) := fun σ H Q Q' k q => h σ H _ _ (fun v H' z => k _ _ z) q
theorem mt_or {a b : XT} (h : MonoT (a.t p)) (h2 : MonoT (b.t p)) : MonoT ((XT.or a b).t p) := fun σ H Q Q' k q => h σ H _ _ (fun v H' z => by
  cases v with
  | true => exact k _ _ z
  | false => exact h2 σ H' _ _ k z) q
theorem mt_and {a b : XT} (h : MonoT (a.t p)) (h2 : MonoT (b.t p)) : MonoT ((XT.and a b).t p) := fun σ H Q Q' k q => h σ H _ _ (fun v H' z => by
  cases v with
  | false => exact k _ _ z
  | true => exact h2 σ H' _ _ k z) q
theorem me_var {j : Nat} : MonoE ((XE.var j).t p) := fun σ H Q Q' k ⟨v, e, z⟩ => ⟨v, e, k _ _ z⟩
theorem me_k {d v e} : MonoE ((XE.k d v e).t p) := fun σ H Q Q' k q => k _ _ q
theorem me_kI {n : Int} : MonoE ((XE.kI n).t p) := fun σ H Q Q' k q => k _ _ q
theorem me_kB {n : Bool} : MonoE ((XE.kB n).t p) := fun σ H Q Q' k q => k _ _ q
theorem me_iop {o : IOp} {a b : XE} (ho : MonoR o.r) (ha : MonoE (a.t p)) (hb : MonoE (b.t p)) : MonoE ((XE.iop o a b).t p) := fun σ H Q Q' k q =>
  ha σ H _ _ (fun x H1 z => hb σ H1 _ _ (fun y H2 w => ho x y H2 Q Q' k w) z) q
theorem mr_lt : MonoR IOp.lt.r := fun x y H Q Q' k ⟨i, j, e, e2, q⟩ => ⟨i, j, e, e2, k _ _ q⟩
theorem mr_le : MonoR IOp.le.r := fun x y H Q Q' k ⟨i, j, e, e2, q⟩ => ⟨i, j, e, e2, k _ _ q⟩
theorem mr_gt : MonoR IOp.gt.r := fun x y H Q Q' k ⟨i, j, e, e2, q⟩ => ⟨i, j, e, e2, k _ _ q⟩
theorem mr_ge : MonoR IOp.ge.r := fun x y H Q Q' k ⟨i, j, e, e2, q⟩ => ⟨i, j, e, e2, k _ _ q⟩
theorem me_ix {a b : XE} (ha : MonoE (a.t p)) (hb : MonoE (b.t p)) : MonoE ((XE.ix a b).t p) := fun σ H Q Q' k q =>
  ha σ H _ _ (fun x H1 z => hb σ H1 _ _ (fun y H2 w => by
    rcases w with ⟨a1, a2, a3, a4, a5, a6, a7, a8, a9⟩ | ⟨a1, a2, a3, a4, a5, a6, a7, a8, a9⟩ | ⟨a1, a2, a3, a4, a5, a6, a7, a8⟩
    · exact .inl ⟨a1, a2, a3, a4, a5, a6, a7, a8, k _ _ a9⟩
    · exact .inr (.inl ⟨a1, a2, a3, a4, a5, a6, a7, a8, k _ _ a9⟩)
    · exact .inr (.inr ⟨a1, a2, a3, a4, a5, a6, a7, k _ _ a8⟩)) z) q
theorem me_eq {n : Bool} {a b : XE} (ha : MonoE (a.t p)) (hb : MonoE (b.t p)) : MonoE ((XE.eq n a b).t p) := fun σ H Q Q' k q =>
  ha σ H _ _ (fun x H1 z => hb σ H1 _ _ (fun y H2 w => by
    cases n with
    | true =>
      obtain ⟨a1, a2, a3, a4, a5, a6, a7⟩ := w
      exact ⟨a1, a2, a3, a4, a5, a6, k _ _ a7⟩
    | false =>
      obtain ⟨a1, a2, a3, a4, a5, a6, a7⟩ := w
      exact ⟨a1, a2, a3, a4, a5, a6, k _ _ a7⟩) z) q
theorem ma_nil : MonoA (XA.nil.t p) := fun σ H Q Q' k q => k _ _ q
theorem ma_cons {a : XE} {as : XA} (ha : MonoE (a.t p)) (hs : MonoA (as.t p)) : MonoA ((XA.cons a as).t p) := fun σ H Q Q' k q =>
  ha σ H _ _ (fun x H1 z => hs σ H1 _ _ (fun xs H2 w => k _ _ w) z) q
theorem mc_nil : MonoA (XC.nil.t p) := fun σ H Q Q' k q => k _ _ q
theorem mc_cons {b : Bool} {a : XE} {as : XC} (ha : MonoE (a.t p)) (hs : MonoA (as.t p)) : MonoA ((XC.cons b a as).t p) := fun σ H Q Q' k q =>
  ha σ H _ _ (fun x H1 z => hs σ H1 _ _ (fun xs H2 w => k _ _ w) z) q
theorem me_tup {as : XA} (hs : MonoA (as.t p)) : MonoE ((XE.tup as).t p) := fun σ H Q Q' k q => hs σ H _ _ (fun xs H1 ⟨a, b⟩ => ⟨a, fun l hl => k _ _ (b l hl)⟩) q
theorem me_call {f : PF} {as : XC} (hs : MonoA (as.t p)) : MonoE ((XE.call f as).t p) := fun σ H Q Q' k q => hs σ H _ _ (fun vs H1 ⟨ds, fps, a, b, c⟩ => by
  refine ⟨ds, fps, a, b, ?_⟩
  cases e : f.F ds with
  | none => rw [e] at c; exact c
  | some r =>
    rw [e] at c
    cases r with
    | ok d => exact fun v H' g x y z => k _ _ (c v H' g x y z)
    | ex cl pl => exact c) q
theorem me_len {as : XA} (hs : MonoA (as.t p)) : MonoE ((XE.bi BI.len as).t p) := fun σ H Q Q' k q => hs σ H _ _ (fun vs H1 ⟨x, n, a, b, c⟩ => ⟨x, n, a, b, k _ _ c⟩) q
end
end DL
set_option maxRecDepth 100000
namespace DL
open PySem PySem.Spec PyProof.Rows L2
/-- is, is not of truths -/
def isbF (neg : Bool) (x y : D) : Option (R D) := match x, y with
  | .bl a, .bl b => some (.ok (.bl (if neg then !decide (a = b) else decide (a = b))))
  | _, _ => none
def XE.isb (neg : Bool) (a b : XE) : XE where
  t p := tOp (if neg then rNotB else rIsB) (a.t p) (b.t p)
  f env := b2 (a.f env) (b.f env) (isbF neg)
  mo ms := match moTwo a b ms with
    | some (_, _, m2) => some (.own, m2)
    | none => none
  ok p ms k ms' hm Z H σ env OW Q E hP := by
    split at hm
    · next k1 k2 m2 e =>
      cases hm
      obtain ⟨m1, h1, h2⟩ := moTwo_of e
      refine XE.two a b h1 h2 E hP fun d1 d2 v1 v2 H2 f1 f2 Z2 OW2 _ _ e2 s2 E2 r1 r2 _ _ _ hP2 => ?_
      cases d1 with
      | bl x =>
        cases d2 with
        | bl y =>
          obtain ⟨rfl, rfl⟩ := r1.bl_of
          obtain ⟨rfl, rfl⟩ := r2.bl_of
          have q := hP2 (.bl (if neg then !decide (x = y) else decide (x = y))) H2 [] Z2 OW2 e2 s2 E2 (RpL.at rfl) (KdOk.nil _)
          cases neg with
          | true => exact ⟨x, y, rfl, rfl, q⟩
          | false => exact ⟨x, y, rfl, rfl, q⟩
        | _ => exact hP2.elim
      | _ => cases d2 <;> exact hP2.elim
    · cases hm
end DL
set_option maxRecDepth 100000
namespace DL
open PySem PySem.Spec PyProof.Rows L2
/-! ### a dict compared with a dict without keys -/
def rEqE (K : PySem.W.Frag) : R2 := fun x y H Q => ∃ p q ks, x = .ref p ∧ y = .ref q ∧ Rd H p (.dK ks) ∧ Rd H q (.dK []) ∧ Q (.bl (decide (ks.length = 0))) H
theorem op_eqE0 {X : Cx} (hu : X.A.units + 70 < cLine) : OpR X (compareOp .Eq) (rEqE X.K) := by
  intro pins s σ H x y v u Q I rx ry h
  obtain ⟨p, p', ks, rfl, rfl, hp, hq, q⟩ := h
  obtain rfl : v = Value.ref p := rx
  obtain rfl : u = Value.ref p' := ry
  obtain ⟨_, ya, va, ra, da⟩ := dk_rd I.hok hp
  obtain ⟨_, yb, vb, rb, db⟩ := dk_rd I.hok hq
  have lb : vb = [] := by
    have := rb.length
    exact List.length_eq_zero_iff.mp (by rw [← this]; rfl)
  subst lb
  refine PySem.W.eq_dictsT (knd := mixKind X.prog X.w) (n := 64) (e := fun _ => true) ya yb da db (fun k v y hm hv => by cases hv) (by omega) ?_
  have ea : (va.length == ([] : List (Key × Value)).length && va.all fun p => (valueAt ([] : List (Key × Value)) p.1).isSome && true) = decide (ks.length = 0) := by
    rw [ra.length]
    cases va with
    | nil => rfl
    | cons a b => simp
  rw [ea]
  exact ⟨.bl _, H, I, rfl, q⟩
theorem op_eqEK {X : Cx} (K : PySem.W.Frag) (hu : X.A.units + 70 < cLine) (h : X.K = K := by rfl) : OpR X (compareOp .Eq) (rEqE K) := h ▸ op_eqE0 hu
def eqEF (x y : D) : Option (R D) := match x, y with
  | .dct ks, .dct [] => some (.ok (.bl (decide (ks.length = 0))))
  | _, _ => none
/-- d == {} -/
def XE.eqe (a b : XE) : XE where
  t p := tOp (rEqE p.cm.K) (a.t p) (b.t p)
  f env := b2 (a.f env) (b.f env) eqEF
  mo ms := match moTwo a b ms with
    | some (_, _, m2) => some (.own, m2)
    | none => none
  ok p ms k ms' hm Z H σ env OW Q E hP := by
    split at hm
    · next k1 k2 m2 e =>
      cases hm
      obtain ⟨m1, h1, h2⟩ := moTwo_of e
      refine XE.two a b h1 h2 E hP fun d1 d2 v1 v2 H2 f1 f2 Z2 OW2 _ _ e2 s2 E2 r1 r2 _ _ _ hP2 => ?_
      match d1, d2, hP2, r1, r2 with
      | .dct ks, .dct [], hP2, r1, r2 =>
        obtain ⟨a, us, g, rfl, rd, hk, rr, _⟩ := r1.dct_of
        obtain ⟨a2, us2, g2, rfl, rd2, hk2, rr2, _⟩ := r2.dct_of
        have e0 : us2 = [] := by
          have := congrArg List.length hk2
          simp at this
          exact this
        subst e0
        have el : us.length = ks.length := by
          have := congrArg List.length hk
          simpa using this
        exact ⟨a, a2, us, rfl, rfl, rd, rd2, by rw [el]; exact hP2 _ H2 [] Z2 OW2 e2 s2 E2 (RpL.at rfl) (KdOk.nil _)⟩
      | .dct _, .dct (_ :: _), hP2, _, _ => exact hP2.elim
      | .dct _, .non, hP2, _, _ => exact hP2.elim
      | .dct _, .bl _, hP2, _, _ => exact hP2.elim
      | .dct _, .int _, hP2, _, _ => exact hP2.elim
      | .dct _, .str _, hP2, _, _ => exact hP2.elim
      | .dct _, .tup _, hP2, _, _ => exact hP2.elim
      | .dct _, .lst _, hP2, _, _ => exact hP2.elim
      | .dct _, .ins _ _, hP2, _, _ => exact hP2.elim
      | .dct _, .scr _, hP2, _, _ => exact hP2.elim
      | .non, _, hP2, _, _ => exact hP2.elim
      | .bl _, _, hP2, _, _ => exact hP2.elim
      | .int _, _, hP2, _, _ => exact hP2.elim
      | .str _, _, hP2, _, _ => exact hP2.elim
      | .tup _, _, hP2, _, _ => exact hP2.elim
      | .lst _, _, hP2, _, _ => exact hP2.elim
      | .ins _ _, _, hP2, _, _ => exact hP2.elim
      | .scr _, _, hP2, _, _ => exact hP2.elim
    · cases hm
end DL
set_option maxRecDepth 100000
namespace DL
open PySem PySem.Spec PyProof.Rows L2
/-! ### x = xs.pop() -/
/-- the last item of a list of things that do not change -/
def XS.popA (i j : Nat) : XS where
  t p := tAsg (tBM0 p.cm.K "list" rPop (tVar i)) (gName j)
  f env := match eget env i with
    | some (.ok (.lst ds)) => match ds[ds.length - 1]? with
      | some x => if immD x then some (.nx ((env.set i (some (.lst ds.dropLast))).set j (some x))) else none
      | none => none
    | _ => none
  mo c ms := if ms[i]? = some .own ∧ i ≠ j ∧ j < ms.length then some (some (ms.set j .own)) else none
  ok p c ms k hm Z H σ env OW En E hP := by
    split at hm
    case isFalse => cases hm
    next hc =>
    cases hm
    obtain ⟨hown, hij, hj⟩ := hc
    obtain ⟨v, d, f, e1, e2, r, _, _, r4⟩ := E.sl.at i _ hown (by intro z; cases z)
    have eg : eget env i = some (.ok d) := by unfold eget; rw [e2]
    rw [eg] at hP
    cases d with
    | lst ds =>
      have hP : PoS p c (some (ms.set j .own)) Z H OW (match ds[ds.length - 1]? with
        | some x => if immD x then some (.nx ((env.set i (some (.lst ds.dropLast))).set j (some x))) else none
        | none => none) En := hP
      cases qx : ds[ds.length - 1]? with
      | none => rw [qx] at hP; exact hP.elim
      | some x =>
        rw [qx] at hP
        have hP : PoS p c (some (ms.set j .own)) Z H OW (if immD x then some (.nx ((env.set i (some (.lst ds.dropLast))).set j (some x))) else none) En := hP
        split at hP
        case isFalse => exact hP.elim
        next him =>
        obtain ⟨a, us, ga, rfl, rd, rr, rfl⟩ := r.lst_of
        have aO : a ∈ OW := (r4 rfl).1 a List.mem_cons_self
        have ra : H a = some (.lst us) := rd_wr rd (E.wr a aO)
        have nd := (r4 rfl).2 E.nd
        have hul : us.length = ds.length := rr.length
        obtain ⟨y, f1, g, f2, hy, hg, ry, _⟩ := rr.item (ds.length - 1) x qx
        have hg0 : g = [] := ry.imm1 him
        subst hg0
        have fo : FocV H (.ref a) [] (.ref a) := .nil
        obtain ⟨gg, rg, sg, ng, put⟩ := E.change (path := []) (d' := .lst ds) hown e2 (by rfl) e1 fo
        obtain ⟨a', us2, g2, he2, rd2, rr2, rfl⟩ := rg.lst_of
        cases he2
        have hus : us2 = us := by
          have h1 := rd_wr rd2 (E.wr a aO)
          rw [ra] at h1; cases h1; rfl
        subst hus
        have nb := List.nodup_cons.mp ng
        obtain ⟨g3, r3, s3, n3⟩ := rr2.cut 0 (ds.length - 1)
        have ed : (ds.drop 0).take (ds.length - 1) = ds.dropLast := by rw [List.drop_zero, List.dropLast_eq_take]
        have eu : (us2.drop 0).take (ds.length - 1) = us2.dropLast := by rw [List.drop_zero, List.dropLast_eq_take, hul]
        rw [ed, eu] at r3
        have frb : Fr [a] H (upd H a (.lst us2.dropLast)) := fun x u q hx => by
          rw [upd_ne (fun z => hx (by rw [z]; exact List.mem_cons_self))]; exact q
        have wb : ∀ x ∈ [a], WrA H x := fun x hx => by
          have : x = a := by simpa using hx
          subst this; exact ⟨_, ra, trivial⟩
        have r5 := r3.aside (g := [a]) frb (fun x hx z => by
          have : x = a := by simpa using z
          subst this
          exact nb.1 (s3 x hx)) wb
        obtain ⟨OW3, E3, sO, fr3, st3⟩ := put (.lst us2.dropLast) (.lst ds.dropLast) (a :: g3) [] List.mem_cons_self trivial (RpL.lst1 (.inl upd_same) r5) (List.nodup_cons.mpr ⟨fun z => nb.1 (s3 a z), n3 nb.2⟩) (fun x hx => .inl (by
          rcases List.mem_cons.mp hx with rfl | hx
          · exact List.mem_cons_self
          · exact List.mem_cons_of_mem _ (s3 x hx))) (fun x hx => by cases hx)
        have ep : setP (.lst ds) [] (.lst ds.dropLast) = .lst ds.dropLast := rfl
        rw [ep] at E3
        have ry2 := ry.aside (g := [a]) frb (fun x hx => by cases hx) wb
        obtain ⟨OW4, E4, sO4⟩ := E3.put (i := j) (k := .own) (m := .own) hj ry2 ⟨List.nodup_nil, fun x hx => by cases hx⟩ rfl
        refine ⟨.ref a, e1, .inl ⟨rfl, us2, .inl rd⟩, a, us2, y, rfl, rfl, ra, by rw [hul]; exact hy, ?_⟩
        refine hP _ rfl _ _ Z OW4 fr3 ⟨fun x hx => ?_, st3.n1, st3.s1, st3.n2, st3.s2, st3.gro⟩ E4
        rcases sO4 x hx with z | ⟨_, z⟩
        · exact (sO x z).elim .inl (fun z => by cases z)
        · cases z
    | _ => exact hP.elim
end DL
set_option maxRecDepth 100000
namespace DL
open PySem PySem.Spec PyProof.Rows L2
/-! ### more that leaves a slot as it is -/
def MonoI (t : TI) : Prop := ∀ σ H (Q Q' : It → Hp → Prop), (∀ J H', Q J H' → Q' J H') → t σ H Q → t σ H Q'
section
variable {i : Nat} {p : Pm}
theorem kg_asg {e : XE} {j : Nat} (he : MonoE (e.t p)) (hij : j ≠ i := by decide) : KeepG i ((XS.asg e (.n j)).t p) := fun En N N' C C' B B' σ H q hN _ _ =>
  he σ H _ _ (fun v H' z => hN _ _ (List.getElem?_set_ne hij) z) q
theorem kg_for {it : XI} {j : Nat} {body : XS} {l : List Nat} (hi : MonoI (it.t p)) (hb : KeepG i (body.t p)) (hij : j ≠ i := by decide) : KeepG i ((XS.for_ it (.n j) body l).t p) := fun En N N' C C' B B' σ H q hN _ _ => by
  refine hi σ H _ _ (fun J H1 => ?_) q
  rintro ⟨W, ⟨m, w0⟩, step⟩
  refine ⟨fun k m σ' H' => W k m σ' H' ∧ σ'[i]? = σ[i]?, ⟨m, w0, rfl⟩, ?_⟩
  rintro k m σ' H' ⟨w, e⟩
  rcases step k m σ' H' w with ⟨st, nx⟩ | ⟨go, N1, h1, h2⟩
  · exact .inl ⟨st, hN σ' H' e nx⟩
  · refine .inr ⟨go, fun σ2 H2 => N1 σ2 H2 ∧ σ2[i]? = σ[i]?, fun σ2 H2 ⟨a, b⟩ => ?_, fun x H' hy => ?_⟩
    · obtain ⟨m', c, d⟩ := h1 σ2 H2 a
      exact ⟨m', c, d, b⟩
    · have hx := h2 x H' hy
      have ej : (σ'.set j (some x))[i]? = σ[i]? := (List.getElem?_set_ne hij).trans e
      exact hb En N1 _ N1 _ N _ (σ'.set j (some x)) H' hx (fun σ3 H3 e3 z => ⟨z, e3.trans ej⟩) (fun σ3 H3 e3 z => ⟨z, e3.trans ej⟩) (fun σ3 H3 e3 z => hN σ3 H3 (e3.trans ej) z)
theorem mi_r1 {as : XA} (h : MonoA (as.t p)) : MonoI ((XI.r1 as).t p) := fun σ H Q Q' k q => h σ H _ _ (fun vs H1 ⟨j, a, b, c, d⟩ => ⟨j, a, b, c, k _ _ d⟩) q
end
theorem Sl.rez {cm : CM} {Z Z2 : Zn} {H : Hp} (es : ∀ a, Z.s a → Z2.s a) {ms : List M} {σ : L2.St} {env : EnvD} {ow : List Addr} (h : Sl cm Z H ms σ env ow) :
    (∀ s : Nat, ms[s]? = some M.bor → ∃ d, env[s]? = some (some d) ∧ immD d = true) → Sl cm Z2 H ms σ env ow := by
  induction h with
  | nil => exact fun _ => .nil
  | dead _ ih => exact fun q => .dead (ih fun s hs => q (s + 1) hs)
  | sh r z _ ih => exact fun q => .sh r (fun a ha => es a (z a ha)) (ih fun s hs => q (s + 1) hs)
  | bor r z _ ih =>
    intro q
    obtain ⟨d, e, im⟩ := q 0 rfl
    cases e
    have := r.imm1 im
    subst this
    exact .bor r (fun a ha => by cases ha) (ih fun s hs => q (s + 1) hs)
  | own r _ ih => exact fun q => .own r (ih fun s hs => q (s + 1) hs)
theorem atI_at {α : Type} {xs : List α} {n : Nat} (h : n < xs.length) : L2.atI xs (n : Int) = xs[n]? := by
  unfold L2.atI L2.ixN
  rw [if_pos (Int.natCast_nonneg n), if_pos (by omega)]
  rfl
/-- slots that are lent to the end are among those looked at -/
def borIn (ms : List M) (i j : Nat) (bs : List Nat) : Bool := (List.range ms.length).all fun s => decide (s = i) || decide (s = j) || !decide (ms[s]? = some .bor) || bs.contains s
def immAt (e : EnvD) (bs : List Nat) : Bool := bs.all fun s => match e[s]? with
  | some (some d) => immD d
  | _ => false
def itmD : D → Nat → Option D
  | .lst ds, n => ds[n]?
  | .tup ds, n => ds[n]?
  | _, _ => none
def viewO (env : EnvD) (i j : Nat) (bs : List Nat) (d : D) : Option Out → Option Out
  | some (.nx e) => if immAt e bs then some (.nx ((e.set i (some d)).set j none)) else none
  | some (.rt (.bl b)) => some (.rt (.bl b))
  | _ => none
/-- x_j = x_i[n], and a statement that only looks at both -/
def XS.view (i j n : Nat) (bs : List Nat) (body : XS) (hk : ∀ p, KeepG i (body.t p)) : XS where
  t p := tSeq (tAsg (tOp (rIx p.cm.K) (tVar i) (tC (.int (n : Int)))) (gName j)) (body.t p)
  f env := match eget env i with
    | some (.ok d) => match itmD d n with
      | some d' => viewO env i j bs d (body.f (env.set j (some d')))
      | none => none
    | _ => none
  mo c ms := if ms[i]? = some .own ∧ i ≠ j ∧ j < ms.length then match body.mo c ((ms.set i .bor).set j .bor) with
    | some none => some none
    | some (some m3) => if borIn m3 i j bs ∧ i < m3.length ∧ j < m3.length ∧ i ∉ bs ∧ j ∉ bs then some (some ((m3.set i .own).set j .dead)) else none
    | none => none
    else none
  ok p c ms k hm Z H σ env OW En E hP := by
    split at hm
    case isFalse => cases hm
    next hc =>
    obtain ⟨hown, hij, hj⟩ := hc
    obtain ⟨v, d, f, OW1, e1, e2, r, s', z1, z2, z3⟩ := E.sl.move i hown
    obtain ⟨n1, n2, n3⟩ := z3 E.nd
    have eg : eget env i = some (.ok d) := by unfold eget; rw [e2]
    rw [eg] at hP
    have hP : PoS p c k Z H OW (match itmD d n with
      | some d' => viewO env i j bs d (body.f (env.set j (some d')))
      | none => none) En := hP
    cases qd : itmD d n with
    | none => rw [qd] at hP; exact hP.elim
    | some d' =>
      rw [qd] at hP
      have hP : PoS p c k Z H OW (viewO env i j bs d (body.f (env.set j (some d')))) En := hP
      have fO : ∀ x ∈ f, x ∈ OW := z1
      have li : i < ms.length := by
        rcases Nat.lt_or_ge i ms.length with h | h
        · exact h
        · rw [List.getElem?_eq_none h] at hown; cases hown
      -- the slot lent
      let Zb : Zn := ⟨Z.s, fun a => Z.n a ∨ a ∈ f⟩
      have E1 : ER p.cm (ms.set i .dead) Zb H σ env OW1 := ⟨s'.mono (fun _ q => q) (fun _ q => .inl q), n2, fun x hx => E.wr x (z2 x hx), fun x hx q => q.elim (E.dis x (z2 x hx)) fun z => n3 x z hx, fun x q => q.elim (E.tr x) (fun z => (by
        obtain ⟨u, q, _⟩ := E.wr x (fO x z)
        rw [q]; intro z; cases z)), fun x q => .inl (E.sub x q)⟩
      obtain ⟨OW2, E2, so2⟩ := E1.put (i := i) (k := .bor) (m := .bor) (by rw [List.length_set]; exact li) r (fun a ha => .inr ha) rfl
      rw [List.set_set, set_self_of e1, set_self_of e2] at E2
      -- the item
      have item : ∃ u g, (tOp (rIx p.cm.K) (tVar i) (tC (.int (n : Int)))) σ H = (tOp (rIx p.cm.K) (tVar i) (tC (.int (n : Int)))) σ H ∧ RpL p.cm H [u] [d'] g ∧ (∀ x ∈ g, x ∈ f) ∧ ∀ Q : VK, Q u H → (tOp (rIx p.cm.K) (tVar i) (tC (.int (n : Int)))) σ H Q := by
        cases d with
        | lst ds =>
          obtain ⟨a, us, ga, rfl, rd, rr, rfl⟩ := r.lst_of
          obtain ⟨u, f1, g, f2, hu, hg, ru, _⟩ := rr.item n d' qd
          have hlt : n < us.length := by
            rcases Nat.lt_or_ge n us.length with h | h
            · exact h
            · rw [List.getElem?_eq_none h] at hu; cases hu
          exact ⟨u, g, rfl, ru, fun x hx => by rw [hg]; simp [hx], fun Q q => ⟨.ref a, e1, .inl ⟨a, us, (n : Int), u, rfl, rfl, .inl rd, (atI_at hlt).trans hu, q⟩⟩⟩
        | tup ds =>
          obtain ⟨a, us, rfl, rd, rr⟩ := r.tup_of
          obtain ⟨u, f1, g, f2, hu, hg, ru, _⟩ := rr.item n d' qd
          have hlt : n < us.length := by
            rcases Nat.lt_or_ge n us.length with h | h
            · exact h
            · rw [List.getElem?_eq_none h] at hu; cases hu
          exact ⟨u, g, rfl, ru, fun x hx => by rw [hg]; simp [hx], fun Q q => ⟨.ref a, e1, .inr (.inl ⟨a, us, (n : Int), u, rfl, rfl, .inl rd, (atI_at hlt).trans hu, q⟩)⟩⟩
        | _ => cases qd
      obtain ⟨u, g, _, ru, gs, asg⟩ := item
      refine asg _ ?_
      show (body.t p) En (σ.set j (some u)) H
      obtain ⟨OW3, E3, so3⟩ := E2.put (i := j) (k := .bor) (m := .bor) (by rw [List.length_set]; exact hj) ru (fun a ha => .inr (gs a ha)) rfl
      have sub3 : ∀ x ∈ OW3, x ∈ OW1 := fun x hx => (so3 x hx).elim (fun z => (so2 x z).elim id (fun z => by cases z.1)) (fun z => by cases z.1)
      have sub : ∀ x ∈ OW3, x ∈ OW := fun x hx => z2 x (sub3 x hx)
      have frO : ∀ {H'}, Fr OW3 H H' → Fr OW H H' := fun fr x o e nx => fr x o e fun z => nx (sub x z)
      cases qb : body.mo c ((ms.set i .bor).set j .bor) with
      | none => rw [qb] at hm; cases hm
      | some kb =>
        rw [qb] at hm
        -- what is wanted behind the body
        have main : (body.t p) { En with nx := fun σ' H' => ∃ m3 Z' OW' e, kb = some m3 ∧ body.f (env.set j (some d')) = some (.nx e) ∧ Fr OW3 H H' ∧ Stp Zb OW3 H Z' OW' H' ∧ ER p.cm m3 Z' H' σ' e OW', ct := En.ct, bk := En.bk } (σ.set j (some u)) H := by
          refine body.ok p c _ kb qb Zb H _ _ OW3 _ E3 ?_
          cases qf : body.f (env.set j (some d')) with
          | none => rw [qf] at hP; exact hP.elim
          | some o =>
            rw [qf] at hP
            cases o with
            | nx e => exact fun m3 q3 σ' H' Z' OW' fr st E' => ⟨m3, Z', OW', e, q3, rfl, fr, st, E'⟩
            | rt dv =>
              cases dv with
              | bl b =>
                have hP : ∀ v H' g, Fr OW H H' → RpL p.cm H' [v] [.bl b] g → RkS c.rk Z OW H H' g → En.rt v H' := hP
                intro v' H' g' fr rv _
                have g0 : g' = [] := rv.imm1 (by rw [immD])
                subst g0
                refine hP v' H' [] (frO fr) rv ?_
                cases c.rk with
                | own => exact ⟨List.nodup_nil, fun a ha => by cases ha⟩
                | sh => exact fun a ha => by cases ha
                | _ => trivial
              | _ => exact hP.elim
            | _ => exact hP.elim
        refine hk p En _ _ En.ct _ En.bk _ _ _ main (fun σ' H' es => ?_) (fun _ _ _ z => z) (fun _ _ _ z => z)
        rintro ⟨m3, Z', OW', e, rfl, qf, fr, st, E'⟩
        rw [qf] at hP
        have hm : (if borIn m3 i j bs ∧ i < m3.length ∧ j < m3.length ∧ i ∉ bs ∧ j ∉ bs then some (some ((m3.set i .own).set j .dead)) else none) = some k := hm
        split at hm
        case isFalse => cases hm
        next hb =>
        cases hm
        obtain ⟨hb1, hb2, hb3, hb4, hb5⟩ := hb
        have hP : PoS p c (some ((m3.set i .own).set j .dead)) Z H OW (if immAt e bs then some (.nx ((e.set i (some d)).set j none)) else none) En := hP
        split at hP
        case isFalse => exact hP.elim
        next him =>
        have sv : σ'[i]? = some (some v) := by rw [es, List.getElem?_set_ne (fun z => hij z.symm)]; exact e1
        obtain ⟨o1, a1, b1, c1⟩ := E'.sl.kill i (some v) (some d)
        rw [set_self_of sv] at a1
        obtain ⟨o2, a2, b2, c2⟩ := a1.kill j (σ'[j]?.getD none) none
        have eσ : σ'.set j (σ'[j]?.getD none) = σ' := by
          rcases Nat.lt_or_ge j σ'.length with h | h
          · rw [List.getElem?_eq_getElem h]; simp
          · exact List.set_eq_of_length_le h
        rw [eσ] at a2
        have nf3 : ∀ x ∈ f, x ∉ OW3 := fun x hx z => n3 x hx (sub3 x z)
        have fn : ∀ x ∈ f, H x ≠ none := fun x hx z => by
          obtain ⟨u, q, _⟩ := E.wr x (fO x hx)
          rw [q] at z; cases z
        let Z2 : Zn := ⟨Z'.s, fun a => Z'.n a ∧ a ∉ f⟩
        have fs : ∀ x, Z'.s x → x ∉ f := fun x q z => by
          rcases st.s2 x q with w | w | w
          · exact E.dis x (fO x z) (E.sub x w)
          · exact nf3 x z w
          · exact fn x z w
        have a3 := Sl.rez (Z := Z') (Z2 := Z2) (fun _ q => q) a2 (fun s hs => by
          have hsj : s ≠ j := fun z => by
            have q : ((m3.set i M.dead).set j M.dead)[j]? = some M.dead := List.getElem?_set_self (by rw [List.length_set]; exact hb3)
            rw [z, q] at hs; cases hs
          rw [List.getElem?_set_ne (fun z => hsj z.symm)] at hs
          have hsi : s ≠ i := fun z => by
            have q : (m3.set i M.dead)[i]? = some M.dead := List.getElem?_set_self hb2
            rw [z, q] at hs; cases hs
          rw [List.getElem?_set_ne (fun z => hsi z.symm)] at hs
          have hsl : s < m3.length := by
            rcases Nat.lt_or_ge s m3.length with h | h
            · exact h
            · rw [List.getElem?_eq_none h] at hs; cases hs
          have hc := List.all_eq_true.mp hb1 s (List.mem_range.mpr hsl)
          simp [hsi, hsj, hs] at hc
          have := List.all_eq_true.mp him s hc
          split at this
          · next dd hdd =>
            have q1 : ((e.set i (some d)).set j none)[s]? = e[s]? := by
              rw [List.getElem?_set_ne (fun z => hsj z.symm), List.getElem?_set_ne (fun z => hsi z.symm)]
            exact ⟨dd, q1.trans hdd, this⟩
          · cases this)
        have oS : ∀ x ∈ o2, x ∈ OW' := fun x hx => b1 x (b2 x hx)
        have E5 : ER p.cm ((m3.set i .dead).set j .dead) Z2 H' σ' ((e.set i (some d)).set j none) o2 := ⟨a3, c2 (c1 E'.nd), fun x hx => E'.wr x (oS x hx), fun x hx q => E'.dis x (oS x hx) q.1, fun x q => E'.tr x q.1, fun x q => ⟨E'.sub x q, fs x q⟩⟩
        have nfO : ∀ x ∈ f, x ∉ o2 := fun x hx z => by
          rcases st.ow x (oS x z) with w | w
          · exact nf3 x hx w
          · exact fn x hx w
        have r' := r.later fr nf3 E3.wr
        obtain ⟨OW6, E6, so6⟩ := E5.put (i := i) (k := .own) (m := .own) (by rw [List.length_set, List.length_set]; exact hb2) r' ⟨n1, fun x hx => ⟨nfO x hx, fun q => q.2 hx, by
          obtain ⟨u, q, w⟩ := E.wr x (fO x hx)
          exact ⟨u, fr x u q (nf3 x hx), w⟩⟩⟩ rfl
        have le : i < e.length := by
          have := E'.sl.lens.2
          omega
        have em : ((m3.set i .dead).set j .dead).set i .own = (m3.set i .own).set j .dead := by
          rw [List.set_comm _ _ (fun z => hij z.symm), List.set_set]
        have ee : ((e.set i (some d)).set j none).set i (some d) = (e.set i (some d)).set j none := by
          rw [List.set_comm _ _ (fun z => hij z.symm), List.set_set]
        rw [em, ee, set_self_of sv] at E6
        refine hP _ rfl σ' H' Z2 OW6 (frO fr) ⟨fun x hx => ?_, fun x q => ⟨st.n1 x (.inl q), fun z => E.dis x (fO x z) q⟩, fun x q => st.s1 x q, fun x q => ?_, fun x q => ?_, st.gro⟩ E6
        · rcases so6 x hx with z | ⟨_, z⟩
          · rcases st.ow x (oS x z) with w | w
            · exact .inl (sub x w)
            · exact .inr w
          · exact .inl (fO x z)
        · rcases st.n2 x q.1 with (w | w) | w | w
          · exact .inl w
          · exact absurd w q.2
          · exact .inr (.inl (sub x w))
          · exact .inr (.inr w)
        · rcases st.s2 x q with w | w | w
          · exact .inl w
          · exact .inr (.inl (sub x w))
          · exact .inr (.inr w)
end DL
set_option maxRecDepth 100000
namespace DL
open PySem PySem.Spec PyProof.Rows L2
/-! ### zip of two tuples -/
theorem itOk_zipT {cm : CM} {K : PySem.W.Frag} {Z : Zn} {OW : List Addr} {H : Hp} {a b : Addr} {us ws : List V} {ds es : List D} (w : ∀ x ∈ OW, WrA H x) (r : RpL cm H us ds []) (r' : RpL cm H ws es [])
    (rd : Rd H a (.tup us)) (na : a ∉ OW) (rd' : Rd H b (.tup ws)) (nb : b ∉ OW) : ItOk cm (RZ.ItzT K a b) .own Z OW H (zipD ds es) := by
  intro Z1 OW1 H1 fr s
  have r1 := r.later fr (fun x hx => by cases hx) w
  have r1' := r'.later fr (fun x hx => by cases hx) w
  have rd1 : SqT K H1 a us := .inl (rd_later fr rd na)
  have rd2 : SqT K H1 b ws := .inl (rd_later fr rd' nb)
  refine ⟨fun i d e => ?_, fun i hi => ?_⟩
  · unfold zipD at e
    rw [List.getElem?_map] at e
    obtain ⟨⟨d1, d2⟩, e1, rfl⟩ := Option.map_eq_some_iff.mp e
    obtain ⟨e2, e3⟩ := List.getElem?_zip_eq_some.mp e1
    obtain ⟨v1, g1, ev1, rv1, sub1, _⟩ := r1.get _ d1 e2
    obtain ⟨v2, g2, ev2, rv2, sub2, _⟩ := r1'.get _ d2 e3
    have z1 : g1 = [] := List.eq_nil_iff_forall_not_mem.mpr fun x hx => by cases sub1 x hx
    have z2 : g2 = [] := List.eq_nil_iff_forall_not_mem.mpr fun x hx => by cases sub2 x hx
    subst z1 z2
    refine ⟨⟨us, ws, v1, v2, rd1, rd2, ev1, ev2⟩, fun x H2 hy => ?_⟩
    obtain ⟨T, x0, y0, rfl, hT, rfl, hx, hy⟩ := hy
    have q1 := hx us rd1
    rw [ev1] at q1; cases q1
    have q2 := hy ws rd2
    rw [ev2] at q2; cases q2
    have e4 := same_upd (o := .tup [v1, v2]) hT
    exact ⟨e4, [], RpL.tup1 (.inl upd_same) ((rv1.same e4).cons1 (rv2.same e4)), fun _ => rfl, KdN.nil _⟩
  · refine ⟨us, ws, rd1, rd2, ?_⟩
    unfold zipD at hi
    rw [List.length_map, List.length_zip] at hi
    rw [r.length, r'.length]
    omega
def zipTF : List D → Option (R (List D))
  | [.tup ds, .tup es] => if immL ds && immL es then some (.ok (zipD ds es)) else none
  | _ => none
def XI.zipT (as : XA) : XI where
  t p := RZ.iZipA p.cm.K (as.t p)
  f env := bLI (as.f env) zipTF
  mo ms := match as.mo ms with
    | some (_, m1) => some (.own, m1)
    | none => none
  ok p ms kd ms' hm Z H σ env OW R E hP := by
    split at hm
    case h_2 => cases hm
    next k1 m1 e =>
    cases hm
    refine as.ok p ms k1 ms' e Z H σ env OW _ E ?_
    cases q : as.f env with
    | none => rw [q] at hP; exact hP
    | some r =>
      rw [q] at hP
      cases r with
      | ex c pl => exact hP
      | ok ds =>
        intro vs H1 f Z1 OW1 e1 s1 E1 r1 K1
        have hP1 : PoI p .own ms' Z H σ env OW (zipTF ds) R := hP
        unfold zipTF at hP1
        split at hP1
        · next d1 d2 =>
          split at hP1
          case isFalse => exact hP1.elim
          next c =>
          rw [Bool.and_eq_true] at c
          obtain ⟨v1, w1, g1, g2, rfl, rfl, t1, rr⟩ := r1.cons_of
          obtain ⟨v2, w2, g3, g4, rfl, rfl, t2, rr⟩ := rr.cons_of
          obtain ⟨rfl, rfl⟩ := rr.nil_of
          obtain ⟨a', us, rfl, rd, ra⟩ := t1.tup_of
          obtain ⟨b', ws, rfl, rd', rb⟩ := t2.tup_of
          have i1 := ra.imm c.1
          have i2 := rb.imm c.2
          subst i1 i2
          exact ⟨a', b', us, ws, rfl, .inr ⟨.inl rd, .inl rd', hP1 _ H1 Z1 OW1 e1 s1 E1 (itOk_zipT (K := p.cm.K) E1.wr ra rb rd (tup_notOwn E1 rd) rd' (tup_notOwn E1 rd'))⟩⟩
        · exact hP1.elim
theorem pi_zipAK {X : Cx} (K : PySem.W.Frag) {e e2 : Expr} {p pos tpos : Pos} {kk : Nat} {elts : List Expr} {ta' : TA} (hg : Gl X "zip") (hm : X.mg "zip" = none) (ha : PA X [e, e2] ta') (h : X.K = K := by rfl)
    (hs : starEach [e, e2] X.env = (false, eval e X.env) :: starEach [e2] X.env := by rfl) (hpl : (backTo pos (starEach [e2] X.env)).any (·.1) = false := by rfl) : PI X (.Tuple elts kk tpos) (.Call (.Name "zip" p) [e, e2] [] pos) (RZ.iZipA K ta') := h ▸ RZ.pi_zipA hg hm ha hs hpl
end DL
set_option maxRecDepth 100000
namespace DL
open PySem PySem.Spec PyProof.Rows L2
/-! ### texts: a sign in a text, a text walked, join, split -/
def rSgn (neg : Bool) : R2 := fun x y H Q => ∃ (c : Nat) (z : Str), x = .str ⟨#[c]⟩ ∧ y = .str z ∧ Q (.bl (if neg then !decide (c ∈ z.cps.toList) else decide (c ∈ z.cps.toList))) H
theorem op_sgIn {X : Cx} : OpR X (compareOp .In) (rSgn false) := op_inS
theorem op_sgNotIn {X : Cx} : OpR X (compareOp .NotIn) (rSgn true) := op_notInS
def sgnF (neg : Bool) (x y : D) : Option (R D) := match x, y with
  | .str a, .str z => match a.cps.toList with
    | [c] => some (.ok (.bl (if neg then !decide (c ∈ z.cps.toList) else decide (c ∈ z.cps.toList))))
    | _ => none
  | _, _ => none
def XE.sgn (neg : Bool) (a b : XE) : XE where
  t p := tOp (rSgn neg) (a.t p) (b.t p)
  f env := b2 (a.f env) (b.f env) (sgnF neg)
  mo ms := match moTwo a b ms with
    | some (_, _, m2) => some (.own, m2)
    | none => none
  ok p ms k ms' hm Z H σ env OW Q E hP := by
    split at hm
    case h_2 => cases hm
    next k1 k2 m2 e =>
    cases hm
    obtain ⟨m1, h1, h2⟩ := moTwo_of e
    refine XE.two a b h1 h2 E hP fun d1 d2 v1 v2 H2 f1 f2 Z2 OW2 _ _ e2 s2 E2 r1 r2 _ _ _ hP2 => ?_
    unfold sgnF at hP2
    split at hP2
    case h_2 => exact hP2.elim
    next a z _ _ =>
    split at hP2
    case h_2 => exact hP2.elim
    next c hc =>
    obtain ⟨rfl, _⟩ := r1.str_of
    obtain ⟨rfl, _⟩ := r2.str_of
    have ea : a = ⟨#[c]⟩ := by
      cases a with | mk cps =>
      have h : cps.toList = [c] := hc
      have : cps = #[c] := by
        rw [← Array.toArray_toList (xs := cps), h]
      rw [this]
    exact ⟨c, z, by rw [ea], rfl, hP2 _ H2 [] Z2 OW2 e2 s2 E2 (RpL.at rfl) (KdOk.nil _)⟩
/-- a text walked -/
def sgnsD (z : Str) : List D := z.cps.toList.map fun c => .str ⟨#[c]⟩
def txtF : D → Option (R (List D))
  | .str z => some (.ok (sgnsD z))
  | _ => none
def XI.txt (a : XE) : XI where
  t p := iStr (a.t p)
  f env := bI (a.f env) txtF
  mo ms := moI true true (a.mo ms)
  ok p ms kd ms' hm Z H σ env OW R E hP := by
    cases ha : a.mo ms with
    | none => rw [ha] at hm; cases hm
    | some km =>
      obtain ⟨k, m1⟩ := km
      rw [ha] at hm
      refine XE.itm a ha E hP fun d v H1 f1 Z1 OW1 _ e1 s1 E1 r1 K1 hP1 => ?_
      cases d with
      | str z =>
        have hP1 : PoI p kd ms' Z H σ env OW (some (.ok (sgnsD z))) R := hP1
        have tr1 := r1.trk
        obtain ⟨rfl, rfl⟩ := r1.str_of
        obtain ⟨Z2, s2, E2, rfl, nn, na, k1, k2⟩ := walkKd (p := p) E1 s1 K1 tr1 hm
        refine ⟨z, rfl, hP1 _ H1 Z2 OW1 e1 s2 E2 fun Z3 OW3 H3 fr st => ⟨fun i d hd => ?_, fun i hi => ?_⟩⟩
        · unfold sgnsD at hd
          rw [List.getElem?_map] at hd
          obtain ⟨c, hc, rfl⟩ := Option.map_eq_some_iff.mp hd
          rw [Array.getElem?_toList] at hc
          have hlt : i < z.cps.size := by
            rcases Nat.lt_or_ge i z.cps.size with h | h
            · exact h
            · rw [Array.getElem?_eq_none h] at hc; cases hc
          refine ⟨hlt, fun x H2 hy => ?_⟩
          obtain ⟨rfl, c', hc', rfl⟩ := hy
          rw [hc] at hc'; cases hc'
          exact ⟨Same.refl _, [], RpL.at rfl, fun _ => rfl, by rw [k1 rfl]; exact KdN.nil _⟩
        · show z.cps.size ≤ i
          have : (sgnsD z).length = z.cps.size := by unfold sgnsD; simp
          omega
      | _ => exact hP1.elim
/-! ### sep.join(xs) -/
def strsD : List D → Option (List Str)
  | [] => some []
  | .str z :: ds => (strsD ds).map (z :: ·)
  | _ :: _ => none
theorem strsD_of : ∀ {ds : List D} {ys : List Str}, strsD ds = some ys → ds = ys.map .str
  | [], ys, h => by cases h; rfl
  | .str z :: ds, ys, h => by
    obtain ⟨ks', h1, rfl⟩ := Option.map_eq_some_iff.mp h
    rw [List.map_cons, ← strsD_of h1]
  | .non :: _, _, h => by cases h
  | .bl _ :: _, _, h => by cases h
  | .int _ :: _, _, h => by cases h
  | .tup _ :: _, _, h => by cases h
  | .lst _ :: _, _, h => by cases h
  | .dct _ :: _, _, h => by cases h
  | .ins _ _ :: _, _, h => by cases h
  | .scr _ :: _, _, h => by cases h
theorem strsD_map : ∀ ys : List Str, strsD (ys.map .str) = some ys
  | [] => rfl
  | y :: ys => by rw [List.map_cons, strsD, strsD_map ys]; rfl
theorem RpL.strs_of {cm : CM} {H : Hp} : ∀ {ys : List Str} {vs : List V} {f : List Addr}, RpL cm H vs (ys.map D.str) f → vs = ys.map V.str
  | [], vs, f, h => by obtain ⟨rfl, _⟩ := h.nil_of; rfl
  | y :: ys, vs, f, h => by
    obtain ⟨v, vs', f1, f2, rfl, rfl, h1, h2⟩ := h.cons_of
    obtain ⟨rfl, _⟩ := h1.str_of
    rw [h2.strs_of]; rfl
theorem RpL.strsV {cm : CM} {H : Hp} : ∀ ys : List Str, RpL cm H (ys.map V.str) (ys.map D.str) []
  | [] => .nil
  | y :: ys => .atom rfl (RpL.strsV ys)
abbrev rJoin (K : PySem.W.Frag) : V → List V → Hp → VK → Prop := fun x xs H Q => ∃ a p, ∃ ys : List Str, x = .str a ∧ xs = [.ref p] ∧ (SqL K H p (ys.map V.str) ∨ SqT K H p (ys.map V.str)) ∧
    (ys.map (·.length)).sum + ys.length * a.length ≤ 16777216 ∧ Q (.str (Txt.join a ys)) H
theorem mt_joinK {X : Cx} : MtR X "str.join" (rJoin X.K) := mt_join
def joinF (x y : D) : Option (R D) := match x, y with
  | .str a, .lst ds => match strsD ds with
    | some ys => if (ys.map (·.length)).sum + ys.length * a.length ≤ 16777216 then some (.ok (.str (Txt.join a ys))) else none
    | none => none
  | _, _ => none
def isStr1 : D → Bool
  | .str _ => true
  | _ => false
def XE.joinT (a b : XE) : XE where
  t p := tBM p.cm.K "str" (rJoin p.cm.K) (a.t p) (tCons (b.t p) tNil)
  f env := b1 (a.f env) fun x => if isStr1 x then b1 (b.f env) fun y => joinF x y else none
  mo ms := match moTwo a b ms with
    | none => none
    | some (_, _, m2) => some (.own, m2)
  ok p ms k ms' hm Z H σ env OW Q E hP := by
    split at hm
    · cases hm
    next k1 k2 m2 e =>
    cases hm
    obtain ⟨m1, h1, h2⟩ := moTwo_of e
    refine XE.one (g := fun x => if isStr1 x then b1 (b.f env) fun y => joinF x y else none) a h1 E hP fun d v H1 f1 Z1 OW1 _ e1 s1 E1 r1 _ hP1 => ?_
    cases d with
    | str z =>
      obtain ⟨rfl, _⟩ := r1.str_of
      refine ⟨rfl, ?_⟩
      have hP2 : PoE p .own ms' Z H σ env OW (b1 (b.f env) fun y => joinF (.str z) y) Q := hP1
      have hP2 := PoE.after hP2 e1 s1
      refine XE.one (T := fun y H2 => tNil σ H2 fun ys H3 => rJoin p.cm.K (.str z) (y :: ys) H3 Q) b h2 E1 hP2 fun d1 v1 H2 f1 Z2 OW2 _ e2 s2 E2 ry _ hP3 => ?_
      unfold joinF at hP3
      split at hP3
      case h_2 => exact hP3.elim
      next a0 ds hz _ =>
      cases hz
      split at hP3
      case h_2 => exact hP3.elim
      next ys hys =>
      split at hP3
      case isFalse => exact hP3.elim
      next hle =>
      obtain ⟨l, us, g, rfl, rd, rr, rfl⟩ := ry.lst_of
      rw [strsD_of hys] at rr
      have := rr.strs_of
      subst this
      exact ⟨z, l, ys, rfl, rfl, .inl (.inl rd), hle, hP3 _ H2 [] Z2 OW2 e2 s2 E2 (RpL.at rfl) (KdOk.nil _)⟩
    | _ => exact hP1.elim
/-! ### x.split(sep) -/
abbrev rSplit : V → List V → Hp → VK → Prop := fun x xs H Q => ∃ a b, x = .str a ∧ xs = [.str b] ∧ (b.length == 0) = false ∧ a.length + 2 ≤ sizeLine ∧ rNewStrs (Txt.split a b) H Q
theorem mt_splitK {X : Cx} : MtR X "str.split" rSplit := mt_split
def splitF (x y : D) : Option (R D) := match x, y with
  | .str a, .str b => if (b.length == 0) = false ∧ a.length + 2 ≤ sizeLine then some (.ok (.lst ((Txt.split a b).map .str))) else none
  | _, _ => none
def XE.splitT (a b : XE) : XE where
  t p := tBM p.cm.K "str" rSplit (a.t p) (tCons (b.t p) tNil)
  f env := b1 (a.f env) fun x => if isStr1 x then b1 (b.f env) fun y => splitF x y else none
  mo ms := match moTwo a b ms with
    | none => none
    | some (_, _, m2) => some (.own, m2)
  ok p ms k ms' hm Z H σ env OW Q E hP := by
    split at hm
    · cases hm
    next k1 k2 m2 e =>
    cases hm
    obtain ⟨m1, h1, h2⟩ := moTwo_of e
    refine XE.one (g := fun x => if isStr1 x then b1 (b.f env) fun y => splitF x y else none) a h1 E hP fun d v H1 f1 Z1 OW1 _ e1 s1 E1 r1 _ hP1 => ?_
    cases d with
    | str z =>
      obtain ⟨rfl, _⟩ := r1.str_of
      refine ⟨rfl, ?_⟩
      have hP2 : PoE p .own ms' Z H σ env OW (b1 (b.f env) fun y => splitF (.str z) y) Q := hP1
      have hP2 := PoE.after hP2 e1 s1
      refine XE.one (T := fun y H2 => tNil σ H2 fun ys H3 => rSplit (.str z) (y :: ys) H3 Q) b h2 E1 hP2 fun d1 v1 H2 f1 Z2 OW2 _ e2 s2 E2 ry _ hP3 => ?_
      cases d1 with
      | str b0 =>
        obtain ⟨rfl, _⟩ := ry.str_of
        have hP3 : PoE p .own ms' Z1 H1 σ env OW1 (if (b0.length == 0) = false ∧ z.length + 2 ≤ sizeLine then some (.ok (.lst ((Txt.split z b0).map .str))) else none) Q := hP3
        split at hP3
        case isFalse => exact hP3.elim
        next hc =>
        refine ⟨z, b0, rfl, rfl, hc.1, hc.2, fun pp hn => ?_⟩
        have sm := same_upd (o := .lst ((Txt.split z b0).map V.str)) hn
        have s3 := s2.trans (Stp.same sm)
        have E3 := E2.same sm
        refine hP3 (.ref pp) _ [pp] Z2 OW2 (e2.trans sm) s3 E3 (RpL.lst1 (.inl upd_same) (RpL.strsV _)) ⟨by simp, fun x hx => ?_⟩
        have : x = pp := by simpa using hx
        subst this
        refine ⟨fun w => ?_, fun w => E2.tr x w hn, .inr (hn_of s2.gro hn), ⟨_, upd_same, trivial⟩⟩
        obtain ⟨u, w, _⟩ := E2.wr x w
        rw [hn] at w; cases w
      | _ => exact hP3.elim
    | _ => exact hP1.elim
theorem kg_nev {i : Nat} {p : Pm} : KeepG i (XS.nev.t p) := fun En N N' C C' B B' σ H q _ _ _ => q.elim
theorem pi_strK {X : Cx} {tg e : Expr} {te : TE} (he : PE X e te) : PI X tg e (iStr te) := pi_str he
end DL
set_option maxRecDepth 100000
namespace DL
open PySem PySem.Spec PyProof.Rows L2
/-! ### the law's def at the very top: what stands around it is known -/
section
variable {P : Program} {w : World} {K : PySem.W.Frag} {mg : Str → Option Value} {base : Heap}
theorem fn_at {x qual : Str} {st : Stmt} {f : Addr} {fd : FuncData} {N ps : List Str} {k : Nat} (F : Fun K x qual st f fd) (S : FnScope N ps (defScope st)) {A : Around} {outer : List Env} {s : Shared} {H : Hp} {args : Args} {us : List Value} {vs : List V} {Q : VK} {E : XK}
    (room : Room (k + 1) A) (env0 : Env0 P w K mg base A outer s H) (bnd : BindsTo s fd args (ps.zip us)) (rel : Vals vs us) (len : vs.length = ps.length)
    (body : ∀ cdv : Value, Room k (A.deeper (envOfC qual (defScope st) s.heap.objs.size f cdv)) → ∃ t, PSs (cxOf CX0 P w K mg base N qual (defScope st) f cdv A outer s H E) (defBody st) t ∧ t { nx := fun _ H' => Q .non H', rt := Q } (start N vs) H) :
    codeAny (model P w) A (.call (.ref f) args) (CR CX0 outer P w H s Q E) s := by
  obtain ⟨_, _, _, _, _, _, cdv, _, _, rfl, found, code⟩ := F.ex
  have inK := env0.mod.kin.keeps fun b o e => (env0.bs b o e).1
  have nolim := env0.mod.nolimit.keeps fun b o e => (env0.bs b o e).1
  have kinds : ∀ y ∈ ps.zip us, (defScope st).names.lookup y.1 = some .local ∨ ((defScope st).names.lookup y.1 = some .cell ∧ ((cellsFrom (s.heap.objs.size + 1) (defScope st).names []).lookup y.1).isSome = true) := by
    rintro ⟨n, v⟩ hy
    have := S.par n (List.of_mem_zip hy).1
    exact this.imp id fun z => ⟨z, PySem.W.cellsFrom_some _ _ _ (.inl z)⟩
  refine codeAny_call_function room.depth (inK _ _ found) rfl S.co S.gen rfl (PySem.W.codeRec_of inK code) (bnd _ _ _ _ (wpAny_newFunctionEnv_cells S.kind kinds fun env he s1 made => ?_))
  cases he
  refine ⟨nolim.keeps made.toInCall.keep, codeAny_func ?_⟩
  obtain ⟨t, ht, hq⟩ := body cdv (room.deeper _)
  refine wpAny_mono (ht.run [] s1 (start N vs) H _ (inv_start S room.hd env0 len rel made) hq) (fun flow s' res => ?_) fun _ _ z => z
  cases flow with
  | ret u => exact let ⟨v, _, H', J, rv, q⟩ := res; ⟨v, H', J.os, J.bare, J.base, J.hok, rv, q⟩
  | next => exact let ⟨_, H', J, q⟩ := res; ⟨.non, H', J.os, J.bare, J.base, J.hok, rfl, q⟩
  | brk => exact let ⟨_, _, _, q⟩ := res; q.elim
  | cont => exact let ⟨_, _, _, q⟩ := res; q.elim
theorem top_at {mb : Str → Option Value} {fa a : Addr} {s : Shared} {vs : List Value} {ns : List Int}
    (inK : K.In s.heap) (gl : s.heap.Ns mainGlobals mg) (bl : s.heap.Ns builtinsNs mb) (boot : ∀ x : Str, x ≠ "__name__" → mb x = bootBuiltins x) (lim : s.heap.NoLimit) (gens : s.gens = #[])
    (scr : s.heap.get? a = some { cls := .type "list", data := .seq vs.toArray }) (whole : IntsAre vs ns) (small : ns.length ≤ sizeLine)
    (go : ∀ (base : Heap) (H : Hp), K.In base → base.Ns mainGlobals mg → Only H → SqL K H a (ns.map V.int) → Env0 P w K mg base callerA [] s H → codeAny (model P w) callerA (.call (.ref fa) ⟨[.ref a], []⟩) (CR CX0 [] P w H s (fun v _ => v = .bl true) fun _ _ _ => False) s) :
    codeAny (model P w) callerA (.call (.ref fa) ⟨[.ref a], []⟩) (fun r s' => r = .ok (.ret (.bool true)) ∧ OldK s.heap s'.heap ∧ s'.os = s.os ∧ AllBare s'.gens) s := by
  have rel := vals_ints whole
  have sizes := whole.length
  -- for any heap of objects known in which at most the script is known
  have main : ∀ H : Hp, Only H → SqL K H a (ns.map V.int) → HOk P w H s.heap → (∀ b, b ≠ a → H b = none) → (∀ o, K.lookup a = some o → H a = none) →
      codeAny (model P w) callerA (.call (.ref fa) ⟨[.ref a], []⟩) (fun r s' => r = .ok (.ret (.bool true)) ∧ OldK s.heap s'.heap ∧ s'.os = s.os ∧ AllBare s'.gens) s := by
    intro H only sq ok oth own
    have dicts : ∀ {b : Addr} {o : Obj} {es : Array DictEntry} {ep : Nat}, s.heap.get? b = some o → o.data = .dict es ep → H b = none := by
      intro b o es ep e d
      by_cases hb : b = a
      · rw [hb, scr] at e
        rw [← Option.some.inj e] at d
        cases d
      · exact oth b hb
    have names : ∀ {b : Addr} {m : Str → Option Value}, s.heap.Ns b m → (hidT s.heap H).Ns b m := by
      rintro b m ⟨o, es, ep, e, d, r⟩
      exact ⟨o, es, ep, hidT_get e (dicts e d), d, r⟩
    have kin : K.In (hidT s.heap H) := by
      intro b o e
      refine hidT_get (inK b o e) ?_
      by_cases hb : b = a
      · rw [hb] at e ⊢; exact own o e
      · exact oth b hb
    obtain ⟨ml, l1, l2⟩ := lim
    have e0 : Env0 P w K mg (hidT s.heap H) callerA [] s H :=
      { frames := rfl
        mod := ⟨kin, names gl, ⟨mb, names bl, boot⟩, ⟨ml, names l1, l2⟩⟩
        bs := fun b o e => of_hidT e
        bsz := Nat.le_of_eq (hidT_size _ _)
        funs := trivial
        frf := fun b hb => nomatch (show b ∈ ([] : List Addr) from hb)
        hok := ok
        bare := .of_eq gens }
    refine codeAny_mono (go _ H kin (names gl) only sq e0) ?_
    rintro r s' h
    cases r with
    | error e => exact False.elim h
    | ok flow =>
      cases flow with
      | next => exact False.elim h
      | brk => exact False.elim h
      | cont => exact False.elim h
      | ret u =>
        obtain ⟨v, H', os, bare, un, ok', rv, q⟩ := h
        have q : v = .bl true := q
        rw [q] at rv
        have rv : u = Value.bool true := rv
        rw [rv]
        refine ⟨rfl, OldK.of_keep fun b o e => ?_, os, bare⟩
        rcases only b with z | ⟨ob, xs, z⟩
        · exact un.keep b o e z (fun m => nomatch (show b ∈ ([] : List Addr) from m)) (fun m => nomatch m)
        · have f1 := (ok b _ z).1
          have f2 := (ok' b _ (un.frzs b ob _ z)).1
          rw [e] at f1
          rw [Option.some.inj f1]
          exact f2
  cases look : K.lookup a with
  | some o =>
    have same := inK a o look
    rw [scr] at same
    have same := (Option.some.inj same).symm
    subst same
    exact main (fun _ => none) (fun _ => .inl rfl) (.inr ⟨_, vs.toArray, _, look, rfl, rfl, rfl, by rw [List.size_toArray, sizes]; exact small, by simpa using rel⟩) (fun b u z => nomatch z) (fun _ _ => rfl) fun _ _ => rfl
  | none =>
    let ob : Obj := { cls := .type "list", data := .seq vs.toArray }
    refine main (fun b => if b = a then some (.frz ob (.lst (ns.map V.int))) else none) (fun b => ?_) (.inl (.inr ⟨ob, if_pos rfl⟩)) (fun b u z => ?_) (fun b hb => if_neg hb) fun o z => by rw [look] at z; cases z
    · by_cases hb : b = a
      · exact .inr ⟨_, _, if_pos hb⟩
      · exact .inl (if_neg hb)
    · by_cases hb : b = a
      · have z := (if_pos hb).symm.trans z
        cases z
        rw [hb]
        exact ⟨scr, by rw [List.length_map]; exact small, vs, _, rel, scr⟩
      · have z := (if_neg hb).symm.trans z
        cases z
end
theorem callerA_guards : callerA.guards = some [] := rfl
/-- the end of a walk whose law's def wants to know that nothing stands around it -/
theorem walk_top {l : PySem.W.OpenLaw} {n : Nat} {q : Program} {loose : List Str} {XP : (Str → Option Value) → Heap → Prop} {YP : World → Heap → Prop} {d : DefRec} {K : Params → PySem.W.Frag}
    (most : l.most = some n) (small : n ≤ sizeLine) (nodef : d.params.defaults = []) (inK : ∀ (w : World) (h : Heap), YP w h → (K w.params).In h)
    (F : ∀ (w : World) (mg : Str → Option Value) (fa : Addr) (h : Heap), (K w.params).In h → h.Ns mainGlobals mg → mg d.name = some (.ref fa) →
      ∀ (base : Heap) (H : Hp) (a : Addr) (ns : List Int) (s : Shared), ns.length ≤ n → (∀ z ∈ ns, Builtin.Int.intBits z ≤ 1048576) → (K w.params).In base → base.Ns mainGlobals mg → Only H → SqL (K w.params) H a (ns.map V.int) → Env0 l.prog w (K w.params) mg base callerA [] s H →
        codeAny (model l.prog w) callerA (.call (.ref fa) ⟨[.ref a], []⟩) (CR CX0 [] l.prog w H s (fun v _ => v = .bl true) fun _ _ _ => False) s) :
    PySem.W.WalkO q loose XP YP l.row.toRowW d [] (fun f vs => PySem.call f vs) := by
  refine Att.attach_callB most nodef fun w s₀ s₁ mg mb fa o pm cd doc a vs ns G Y ho hd hcd hmg scr whole len bits gens => ?_
  have kin := inK w _ Y
  exact top_at kin G.T.g G.T.b G.T.builtins G.T.nolimit gens scr whole (Nat.le_trans len small) fun base H kb gb only sq e0 => F w mg fa _ kin G.T.g hmg base H a ns s₁ len bits kb gb only sq e0
end DL
set_option maxRecDepth 100000
namespace DL
open PySem PySem.Spec PyProof.Rows L2
/-! ### repr of nested data (an empty dict may stand in it), where nothing of the kind runs around -/
mutual
inductive RdR (h : Heap) : Value → PyData → Prop
  | none : RdR h .none .none
  | bool (b) : RdR h (.bool b) (.bool b)
  | int (i t) : RdR h (.int i t) (.int i)
  | str (x t) : RdR h (.str x t) (.str x)
  | list {a o vs n xs} : h.get? a = some o → o.cls = .type "list" → o.data = .seq vs n → RdRs h vs.toList xs → RdR h (.ref a) (.list xs)
  | tuple {a o vs n xs} : h.get? a = some o → o.cls = .type "tuple" → o.data = .seq vs n → RdRs h vs.toList xs → RdR h (.ref a) (.tuple xs)
  | dict {a o n} : h.get? a = some o → o.cls = .type "dict" → o.data = .dict #[] n → (a == sysModules) = false → RdR h (.ref a) (.dict [])
inductive RdRs (h : Heap) : List Value → List PyData → Prop
  | nil : RdRs h [] []
  | cons {v vs d ds} : RdR h v d → RdRs h vs ds → RdRs h (v :: vs) (d :: ds)
end
mutual
theorem RdR.reads {h : Heap} : ∀ {v : Value} {d : PyData}, RdR h v d → ∃ as, Reads h v d as
  | _, _, .none => ⟨_, .none⟩
  | _, _, .bool b => ⟨_, .bool b⟩
  | _, _, .int i t => ⟨_, .int i t⟩
  | _, _, .str x t => ⟨_, .str x t⟩
  | _, _, .list a b c r => let ⟨_, z⟩ := r.reads; ⟨_, .list a b c z⟩
  | _, _, .tuple a b c r => let ⟨_, z⟩ := r.reads; ⟨_, .tuple a b c z⟩
  | _, _, .dict a b c _ => ⟨_, .dict (kvs := []) a b c .nil .nil⟩
theorem RdRs.reads {h : Heap} : ∀ {vs : List Value} {ds : List PyData}, RdRs h vs ds → ∃ as, ReadsAll h vs ds as
  | _, _, .nil => ⟨_, .nil⟩
  | _, _, .cons r rs => let ⟨_, z⟩ := r.reads; let ⟨_, y⟩ := rs.reads; ⟨_, .cons z y⟩
end
section
variable {prog : Program} {w : World} {h₀ : Heap}
theorem shown_parts {xs : List PyData} {n : Nat} (z : (listText (PyData.shownAll xs)).length ≤ n ∨ (tupleText (PyData.shownAll xs)).length ≤ n) : ∀ t ∈ PyData.shownAll xs, t.length ≤ n := fun _ m =>
  z.elim (fun z => Nat.le_trans (listText_mem_le m) z) fun z => Nat.le_trans (tupleText_mem_le m) z
mutual
theorem RdR.shows : ∀ {v : Value} {d : PyData}, RdR h₀ v d → d.showable = true → d.shown.length ≤ sizeLine → ∃ bs, ReadAtMost h₀ d.depth bs ∧ ReprK prog w bs h₀ d.depth v d.shown
  | _, _, .none, _, _ => ⟨[], (fun _ z => by cases z), by rw [PyData.shown]; exact .of_is ReprIs.none _ _ _⟩
  | _, _, .bool b, _, _ => ⟨[], (fun _ z => by cases z), by rw [PyData.shown]; exact .of_is (ReprIs.bool b) _ _ _⟩
  | _, _, .int i t, ok, _ => ⟨[], (fun _ z => by cases z), by rw [PyData.shown]; exact .of_is (ReprIs.int t (by simpa [PyData.showable] using ok)) _ _ _⟩
  | _, _, .str x t, _, z => ⟨[], (fun _ z => by cases z), by rw [PyData.shown] at z ⊢; exact .of_is (ReprIs.str x t z) _ _ _⟩
  | _, _, .list (a := a) (vs := vs) (xs := xs) g c s rs, ok, z => by
    obtain ⟨as, all⟩ := rs.reads
    have whole : Reads h₀ (.ref a) (.list xs) (a :: as) := .list g c s all
    rw [PyData.shown] at z ⊢
    rw [PyData.depth]
    obtain ⟨bs, low, each⟩ := rs.shows (by rwa [PyData.showable] at ok) (shown_parts (.inl z))
    have out : a ∉ bs := not_mem_of_deeper whole (by rw [PyData.depth]; omega) low
    refine ⟨a :: bs, ?_, ?_⟩
    · have := ReadAtMost.cons whole (by rw [PyData.depth]; omega) low
      rwa [PyData.depth] at this
    · obtain ⟨l⟩ := vs
      cases l with
      | nil =>
        have rs : RdRs h₀ [] xs := rs
        cases rs
        exact ReprK.listEmpty g c s
      | cons x l => exact ReprK.list g c s out (by simpa using each.length_eq) fun i y e => each.item i y (by simpa using e)
  | _, _, .tuple (a := a) (xs := xs) g c s rs, ok, z => by
    obtain ⟨as, all⟩ := rs.reads
    have whole : Reads h₀ (.ref a) (.tuple xs) as := .tuple g c s all
    rw [PyData.shown] at z ⊢
    rw [PyData.depth]
    obtain ⟨bs, low, each⟩ := rs.shows (by rwa [PyData.showable] at ok) (shown_parts (.inr z))
    have out : a ∉ bs := not_mem_of_deeper whole (by rw [PyData.depth]; omega) low
    refine ⟨a :: bs, ?_, ReprK.tuple g c s out each⟩
    have := ReadAtMost.cons whole (by rw [PyData.depth]; omega) low
    rwa [PyData.depth] at this
  | _, _, .dict (a := a) g c s low, _, _ => by
    have whole : Reads h₀ (.ref a) (.dict []) _ := .dict (kvs := []) g c s .nil .nil
    refine ⟨[a], fun b hb => ⟨_, _, (List.mem_singleton.mp hb) ▸ whole, Nat.le_refl _⟩, ?_⟩
    rw [PyData.shown, PyData.depth]
    exact ReprK.dict g c s low (by simp) .nil
theorem RdRs.shows : ∀ {vs : List Value} {ds : List PyData}, RdRs h₀ vs ds → PyData.showableAll ds = true → (∀ t ∈ PyData.shownAll ds, t.length ≤ sizeLine) → ∃ bs, ReadAtMost h₀ (PyData.depthAll ds) bs ∧ ReprAllK prog w bs h₀ (PyData.depthAll ds) vs (PyData.shownAll ds)
  | _, _, .nil, _, _ => ⟨[], (fun _ z => by cases z), by rw [PyData.shownAll]; exact .nil⟩
  | _, _, .cons (d := d) (ds := ds) r rs, ok, z => by
    rw [PyData.showableAll, Bool.and_eq_true] at ok
    rw [PyData.shownAll] at z ⊢
    rw [PyData.depthAll]
    obtain ⟨b1, l1, s1⟩ := r.shows ok.1 (z _ List.mem_cons_self)
    obtain ⟨b2, l2, s2⟩ := rs.shows ok.2 fun t m => z t (List.mem_cons_of_mem _ m)
    exact ⟨b1 ++ b2, (l1.mono (Nat.le_max_left _ _)).append (l2.mono (Nat.le_max_right _ _)), .cons ((s1.more fun b m => List.mem_append_left _ m).level_le (Nat.le_max_left _ _)) (s2.more_le (fun b m => List.mem_append_right _ m) (Nat.le_max_right _ _))⟩
end
variable {A : Around} {E : Value → Shared → Prop} {s : Shared} {Q : Value → Shared → Prop}
theorem repr_of {v : Value} {d : PyData} (r : RdR s.heap v d) (ok : d.showable = true) (z : d.shown.length ≤ sizeLine) (clear : A.guards = some []) (room : A.units + (d.depth + 1) < cLine)
    (q : ∀ h' u tk, (∀ b o, s.heap.get? b = some o → h'.get? b = some o) → Q (.str d.shown u) { s with heap := h', toks := tk }) : wpAny (model prog w) A (call (.builtin "repr") [v]) Q E s := by
  have stay : ∀ b o, s.heap.get? b = some o → s.heap.get? b = some o := fun _ _ e => e
  cases r with
  | none => exact PySem.P.repr_of_none (by have := q s.heap s.toks (s.toks + 1) stay; rwa [PyData.shown] at this)
  | bool b => exact PySem.P.repr_of_bool (by have := q s.heap s.toks (s.toks + 1) stay; rwa [PyData.shown] at this)
  | int i t => exact PySem.P.repr_of_int (by simpa [PyData.showable] using ok) (by have := q s.heap s.toks (s.toks + 1) stay; rwa [PyData.shown] at this)
  | str x t => exact PySem.P.repr_of_str (by have := q s.heap s.toks (s.toks + 1) stay; rwa [PyData.shown] at this) (by rwa [PyData.shown] at z)
  | @list a o vs n xs g c sq rs =>
    obtain ⟨as, all⟩ := rs.reads
    have whole : Reads s.heap (.ref a) (.list xs) (a :: as) := .list g c sq all
    rw [PyData.depth] at room
    obtain ⟨l⟩ := vs
    cases l with
    | nil =>
      have rs : RdRs s.heap [] xs := rs
      cases rs
      exact repr_of_reads' whole rfl (PyData.noDict_hsm rfl) clear (by rw [PyData.depth]; exact room) stay q z
    | cons x l =>
      rw [PyData.shown] at z q
      obtain ⟨bs, low, each⟩ := rs.shows (prog := prog) (w := w) (by rwa [PyData.showable] at ok) (shown_parts (.inl z))
      have out : a ∉ bs := not_mem_of_deeper whole (by rw [PyData.depth]; omega) low
      exact call_repr_slot (by omega) ⟨o, g, c⟩ F.slot_list_repr.toG (call_list_reprK (g := []) g c sq out (by simpa using each.length_eq) (fun i y e => each.item i y (by simpa using e)) clear (fun b _ => Clear.nil b) (by show A.units + 1 + _ < _; omega) stay (fun h' u tk k => ⟨_, u, rfl, q h' u tk k⟩) z)
  | @tuple a o vs n xs g c sq rs =>
    obtain ⟨as, all⟩ := rs.reads
    have whole : Reads s.heap (.ref a) (.tuple xs) as := .tuple g c sq all
    rw [PyData.depth] at room
    rw [PyData.shown] at z q
    obtain ⟨bs, low, each⟩ := rs.shows (prog := prog) (w := w) (by rwa [PyData.showable] at ok) (shown_parts (.inr z))
    have out : a ∉ bs := not_mem_of_deeper whole (by rw [PyData.depth]; omega) low
    exact call_repr_slot (by omega) ⟨o, g, c⟩ F.slot_tuple_repr (call_tuple_reprK (g := []) g c sq out each clear (fun b _ => Clear.nil b) (by show A.units + 1 + _ < _; omega) stay (fun h' u tk k => ⟨_, u, rfl, q h' u tk k⟩) z)
  | @dict a o n g c sq low =>
    have whole : Reads s.heap (.ref a) (.dict []) ([a] ++ []) := .dict (kvs := []) g c sq .nil .nil
    exact repr_of_reads' whole rfl (fun _ m => by
      have e : sysModules = a := by simpa using m
      rw [e] at low
      simp at low) clear room stay q z
end
mutual
inductive DpZ (K : PySem.W.Frag) (H : Hp) : V → PyData → Prop
  | non : DpZ K H .non .none
  | bl (b : Bool) : DpZ K H (.bl b) (.bool b)
  | int (i : Int) : DpZ K H (.int i) (.int i)
  | str (x : Str) : DpZ K H (.str x) (.str x)
  | lst {a : Addr} {xs : List V} {ds : List PyData} : SqL K H a xs → DpZs K H xs ds → DpZ K H (.ref a) (.list ds)
  | tup {a : Addr} {xs : List V} {ds : List PyData} : SqT K H a xs → DpZs K H xs ds → DpZ K H (.ref a) (.tuple ds)
  | dct {a : Addr} : Rd H a (.dK []) → DpZ K H (.ref a) (.dict [])
inductive DpZs (K : PySem.W.Frag) (H : Hp) : List V → List PyData → Prop
  | nil : DpZs K H [] []
  | cons {v : V} {vs : List V} {d : PyData} {ds : List PyData} : DpZ K H v d → DpZs K H vs ds → DpZs K H (v :: vs) (d :: ds)
end
section
variable {X : Cx} {pins : List (Addr × Obj)} {σ : L2.St} {H : Hp} {s : Shared}
mutual
theorem DpZ.rdr (I : Inv X pins σ H s) : ∀ {v : V} {d : PyData} {u : Value}, DpZ X.K H v d → RelV v u → RdR s.heap u d
  | _, _, _, .non, r => by cases r; exact .none
  | _, _, _, .bl b, r => by cases r; exact .bool b
  | _, _, _, .int i, r => by obtain ⟨t, rfl⟩ := r; exact .int i t
  | _, _, _, .str x, r => by obtain ⟨t, rfl⟩ := r; exact .str x t
  | _, _, _, .lst hs ha, r => by
    cases r
    obtain ⟨its, rv, ⟨o, n, ho, hc, _, hd⟩, _⟩ := I.list hs
    exact .list ho hc hd (DpZs.rdrs I ha rv)
  | _, _, _, .tup hs ha, r => by
    cases r
    obtain ⟨its, rv, ⟨o, ho, hc, n, hd⟩, _⟩ := I.tuple hs
    exact .tuple ho hc hd (DpZs.rdrs I ha rv)
  | _, _, _, .dct rd, r => by
    cases r
    obtain ⟨_, low, vs, kv, o, es, ep, ho, ex, hd, _, prs, _⟩ := dk_rd I.hok rd
    have e0 : vs = [] := by cases kv; rfl
    subst e0
    have e1 : es = #[] := by
      have := prs.length
      exact Array.eq_empty_of_size_eq_zero (by simpa using this)
    subst e1
    exact .dict ho ex.1 hd low
theorem DpZs.rdrs (I : Inv X pins σ H s) : ∀ {vs : List V} {ds : List PyData} {us : List Value}, DpZs X.K H vs ds → Vals vs us → RdRs s.heap us ds
  | _, _, _, .nil, r => by cases r; exact .nil
  | _, _, _, .cons h1 h2, r => by
    cases r with
    | cons r1 r2 => exact .cons (DpZ.rdr I h1 r1) (DpZs.rdrs I h2 r2)
end
end
abbrev rRepr (K : PySem.W.Frag) : List V → Hp → VK → Prop := fun xs H Q => ∃ (v : V) (d : PyData), xs = [v] ∧ DpZ K H v d ∧ d.showable = true ∧ d.depth ≤ 64 ∧ d.shown.length ≤ sizeLine ∧ Q (.str d.shown) H
theorem call_reprK {X : Cx} (K : PySem.W.Frag) (clear : X.A.guards = some []) (room : X.A.units + 65 < cLine) (h : X.K = K := by rfl) : CallR X (.builtin "repr") (rRepr K) := by
  subst h
  intro pins s σ H xs us Q I r q
  obtain ⟨v, d, rfl, dz, ok, dep, z, q⟩ := q
  obtain ⟨u, rfl, ru⟩ := vals1 r
  exact repr_of (dz.rdr I ru) ok z clear (by omega) fun h' t tk k => ⟨.str d.shown, H, I.kept (t' := tk) k, ⟨t, rfl⟩, q⟩
mutual
def toPz : D → Option PyData
  | .non => some .none
  | .bl b => some (.bool b)
  | .int i => some (.int i)
  | .str s => some (.str s)
  | .tup xs => (toPzs xs).map .tuple
  | .lst xs => (toPzs xs).map .list
  | .dct [] => some (.dict [])
  | .dct (_ :: _) => none
  | .ins _ _ => none
  | .scr _ => none
def toPzs : List D → Option (List PyData)
  | [] => some []
  | d :: ds => match toPz d, toPzs ds with
    | some x, some xs => some (x :: xs)
    | _, _ => none
end
theorem toPzs_cons {d : D} {ds : List D} {xs : List PyData} (h : toPzs (d :: ds) = some xs) : ∃ x ys, toPz d = some x ∧ toPzs ds = some ys ∧ xs = x :: ys := by
  rw [toPzs] at h
  split at h
  · next e1 e2 => cases h; exact ⟨_, _, e1, e2, rfl⟩
  · cases h
theorem RpL.dpz {cm : CM} {H vs ds f} (h : RpL cm H vs ds f) : ∀ xs, toPzs ds = some xs → DpZs cm.K H vs xs := by
  induction h with
  | nil => intro xs q; rw [toPzs] at q; cases q; exact .nil
  | @atom v d _ _ _ e _ ih =>
    intro xs q
    obtain ⟨x, ys, q1, q2, rfl⟩ := toPzs_cons q
    refine .cons ?_ (ih ys q2)
    cases d with
    | non => rw [toPz] at q1; cases q1; cases e; exact .non
    | bl b => rw [toPz] at q1; cases q1; cases e; exact .bl b
    | int b => rw [toPz] at q1; cases q1; cases e; exact .int b
    | str b => rw [toPz] at q1; cases q1; cases e; exact .str b
    | _ => cases e
  | tup r _ _ i1 i2 =>
    intro xs q
    obtain ⟨x, ys, q1, q2, rfl⟩ := toPzs_cons q
    rw [toPz] at q1
    obtain ⟨zs, q3, rfl⟩ := Option.map_eq_some_iff.mp q1
    exact .cons (.tup (.inl r) (i1 zs q3)) (i2 ys q2)
  | lst r _ _ i1 i2 =>
    intro xs q
    obtain ⟨x, ys, q1, q2, rfl⟩ := toPzs_cons q
    rw [toPz] at q1
    obtain ⟨zs, q3, rfl⟩ := Option.map_eq_some_iff.mp q1
    exact .cons (.lst (.inl r) (i1 zs q3)) (i2 ys q2)
  | scr r _ _ i1 i2 =>
    intro xs q
    obtain ⟨x, ys, q1, q2, rfl⟩ := toPzs_cons q
    rw [toPz] at q1; cases q1
  | @dct a f1 vs' ds' f2 ks kvs r e _ _ i1 i2 =>
    intro xs q
    obtain ⟨x, ys, q1, q2, rfl⟩ := toPzs_cons q
    cases kvs with
    | nil =>
      rw [toPz] at q1; cases q1
      have : ks = [] := by simpa using e
      subst this
      exact .cons (.dct r) (i2 ys q2)
    | cons _ _ => rw [toPz] at q1; cases q1
  | ins r _ _ _ i1 i2 =>
    intro xs q
    obtain ⟨x, ys, q1, q2, rfl⟩ := toPzs_cons q
    rw [toPz] at q1; cases q1
def reprF : List D → Option D
  | [d] => match toPz d with
    | some p => if p.showable && decide (p.depth ≤ 64) && decide (p.shown.length ≤ sizeLine) then some (.str p.shown) else none
    | none => none
  | _ => none
def BI.repr : BI where
  r p := rRepr p.cm.K
  g := reprF
  ok p ds d h := by
    unfold reprF at h
    split at h
    case h_2 => cases h
    next d0 =>
    split at h
    case h_2 => cases h
    next pd hp =>
    split at h
    case isFalse => cases h
    next hc =>
    cases h
    simp only [Bool.and_eq_true, decide_eq_true_eq] at hc
    refine ⟨_, rfl, fun H vs f Q r q => ?_⟩
    obtain ⟨v, rfl⟩ := r.one_of
    have := r.dpz [pd] (by rw [toPzs, hp, toPzs])
    cases this with
    | cons a _ => exact ⟨v, pd, rfl, a, hc.1.1, hc.1.2, hc.2, q⟩
/-! ### the law's def at the top -/
section
variable {P : Program} {w : World} {K : PySem.W.Frag} {mg : Str → Option Value} {base : Heap}
theorem fn_top {cm : CM} {x qual : Str} {st : Stmt} {f : Addr} {fd : FuncData} {N ps : List Str} {k : Nat} {B : XS} {pk : List Bool} {rk : Kd} {m : Nat} {km : Option (List M)} (F : Fun K x qual st f fd) (S : FnScope N ps (defScope st))
    (hN : N.length = pk.length + m) (hp : ps.length = 1) (hm : B.mo (c0 rk (pk.length + m)) (ms0 pk m) = some km) (bind : ∀ (s : Shared) (v : Value), BindsTo s fd ⟨[v], []⟩ (ps.zip [v]))
    (hb : ∀ (cdv : Value) (s : Shared) (H : Hp) (E : XK), Room k (callerA.deeper (envOfC qual (defScope st) s.heap.objs.size f cdv)) →
      ∃ t, PSs (cxOf CX0 P w K mg base N qual (defScope st) f cdv callerA [] s H E).nox (defBody st) t ∧ ∀ D σ H', B.t ⟨fun _ _ _ _ => False, cm⟩ D σ H' → t D σ H')
    (room : Room (k + 1) callerA) {s : Shared} {H : Hp} {a : Addr} (e0 : Env0 P w K mg base callerA [] s H) (sp : spP cm ⟨pk, rk, runD B m⟩ [.ref a] H (fun v _ => v = .bl true) fun _ _ _ => False) :
    codeAny (model P w) callerA (.call (.ref f) ⟨[.ref a], []⟩) (CR CX0 [] P w H s (fun v _ => v = .bl true) fun _ _ _ => False) s :=
  fn_at (us := [.ref a]) (vs := [V.ref a]) F S room e0 (bind s (.ref a)) (.cons rfl .nil) hp.symm fun cdv hr => by
    obtain ⟨t, ht, hq⟩ := hb cdv s H (fun _ _ _ => False) hr
    exact ⟨t, ht.nox, hq _ _ _ (fn_body hm hN sp)⟩
end
end DL
set_option maxRecDepth 100000
namespace DL
open PySem PySem.Spec PyProof.Rows L2
/-! ### x = list(ys) and x[i] = e, the items shared -/
theorem RpL.offl {cm : CM} {H : Hp} {a : Addr} {us : List V} {o' : HO} (ha : H a = some (.lst us)) {vs ds f} (nf : ∀ x ∈ f, x ≠ a) (r : RpL cm H vs ds f) : RpL cm (upd H a o') vs ds f := by
  refine r.keep (fun x u hx r _ => ?_) (fun x us r => ?_) fun x o us r => ?_
  · rcases r with r | ⟨o, r⟩
    · exact .inl (by rw [upd_ne (nf x hx)]; exact r)
    · exact .inr ⟨o, by rw [upd_ne (nf x hx)]; exact r⟩
  · have hx : x ≠ a := fun z => by
      subst z
      rcases r with r | ⟨o, r⟩ <;> rw [ha] at r <;> cases r
    rcases r with r | ⟨o, r⟩
    · exact .inl (by rw [upd_ne hx]; exact r)
    · exact .inr ⟨o, by rw [upd_ne hx]; exact r⟩
  · have hx : x ≠ a := fun z => by subst z; rw [ha] at r; cases r
    rw [upd_ne hx]; exact r
theorem ER.freshL {cm ms Z H σ env OW} (E : ER cm ms Z H σ env OW) {a : Addr} {us : List V} {o' : HO} (ha : H a = some (.lst us)) (nz : ¬ Z.n a) (no : a ∉ OW) : ER cm ms Z (upd H a o') σ env OW := by
  have sl : ∀ {ms σ env ow}, Sl cm Z H ms σ env ow → (∀ x ∈ ow, x ≠ a) → Sl cm Z (upd H a o') ms σ env ow := fun h => by
    induction h with
    | nil => exact fun _ => .nil
    | dead _ ih => exact fun q => .dead (ih q)
    | sh r z _ ih => exact fun q => .sh (r.offl ha fun x hx => by intro e; subst e; exact nz (E.sub x (z x hx))) z (ih q)
    | bor r z _ ih => exact fun q => .bor (r.offl ha fun x hx => by intro e; subst e; exact nz (z x hx)) z (ih q)
    | own r _ ih => exact fun q => .own (r.offl ha fun x hx => q x (List.mem_append_left _ hx)) (ih fun x hx => q x (List.mem_append_right _ hx))
  exact ⟨sl E.sl (fun x hx => by intro e; subst e; exact no hx), E.nd, fun x hx => by
    obtain ⟨u, q, w⟩ := E.wr x hx
    exact ⟨u, by rw [upd_ne (by intro z; subst z; exact no hx)]; exact q, w⟩, E.dis, fun x hx => upd_some x (E.tr x hx), E.sub⟩
theorem RpL.setAtS {cm H vs ds f} (h : RpL cm H vs ds f) (n : Nat) (d : D) (e : ds[n]? = some d) {v2 d2 g2} (r : RpL cm H [v2] [d2] g2) : ∃ f', RpL cm H (vs.set n v2) (ds.set n d2) f' ∧ ∀ x ∈ f', x ∈ f ∨ x ∈ g2 := by
  induction ds generalizing vs f n with
  | nil => simp at e
  | cons d0 ds ih =>
    obtain ⟨v, vs', f1, f2, rfl, rfl, h1, h2⟩ := h.cons_of
    cases n with
    | zero => exact ⟨g2 ++ f2, r.cons1 h2, fun x hx => (List.mem_append.mp hx).elim .inr fun z => .inl (List.mem_append_right _ z)⟩
    | succ n =>
      obtain ⟨f', a, b⟩ := ih h2 n (by simpa using e)
      exact ⟨f1 ++ f', h1.cons1 a, fun x hx => (List.mem_append.mp hx).elim (fun z => .inl (List.mem_append_left _ z)) fun z => (b x z).imp (List.mem_append_right _) id⟩
def itemsD : D → Option (List D)
  | .lst ds => some ds
  | _ => none
def cpF (env : EnvD) (j : Nat) (ds : List D) (x k : D) : Option Out := match k with
  | .int i => match ixN ds.length i with
    | some n => if n < ds.length then some (.nx (env.set j (some (.lst (ds.set n x))))) else none
    | none => none
  | _ => none
def cp2 (env : EnvD) (e b : Option (R D)) (g : D → D → Option Out) : Option Out := match e with
  | some (.ok x) => match b with
    | some (.ok k) => g x k
    | _ => none
  | _ => none
def XS.setcp (j : Nat) (as : XA) (e b : XE) : XS where
  t p := tSeq (tAsg (tCB (rListOf p.cm.K) (as.t p)) (gName j)) (tAsg (e.t p) (gSub (tVar j) (b.t p) rSetL))
  f env := match as.f env with
    | some (.ok [.lst ds]) => cp2 env (e.f (env.set j none)) (b.f (env.set j none)) (cpF (env.set j none) j ds)
    | _ => none
  mo c ms := match as.mo ms with
    | some (.sh, m1) => if j < m1.length then match e.mo (m1.set j .dead) with
      | some (ke, m2) => match b.mo m2 with
        | some (_, m3) => if leK ke .sh = true ∧ j < m3.length then some (some (m3.set j .sh)) else none
        | none => none
      | none => none
      else none
    | _ => none
  ok p c ms k hm Z H σ env OW En E hP := by
    split at hm
    case h_2 => cases hm
    next m1 h1 =>
    split at hm
    case isFalse => cases hm
    next hj1 =>
    split at hm
    case h_2 => cases hm
    next ke m2 h2 =>
    split at hm
    case h_2 => cases hm
    next k3 m3 h3 =>
    split at hm
    case isFalse => cases hm
    next hc =>
    cases hm
    obtain ⟨hle, hj3⟩ := hc
    refine as.ok p ms .sh m1 h1 Z H σ env OW _ E ?_
    cases qa : as.f env with
    | none => rw [qa] at hP; exact hP.elim
    | some ra =>
      rw [qa] at hP
      cases ra with
      | ex _ _ => exact hP.elim
      | ok dl =>
        match dl, qa, hP with
        | [.lst ds], qa, hP => ?_
        | [], _, hP => exact hP.elim
        | [.non], _, hP => exact hP.elim
        | [.bl _], _, hP => exact hP.elim
        | [.int _], _, hP => exact hP.elim
        | [.str _], _, hP => exact hP.elim
        | [.tup _], _, hP => exact hP.elim
        | [.dct _], _, hP => exact hP.elim
        | [.ins _ _], _, hP => exact hP.elim
        | [.scr _], _, hP => exact hP.elim
        | a :: _ :: _, _, hP => cases a <;> exact hP.elim
        intro vs H1 f Z1 OW1 e1 s1 E1 r1 K1
        obtain ⟨v1, rfl⟩ := r1.one_of
        obtain ⟨b0, us, g, rfl, rd, rr, rfl⟩ := r1.lst_of
        refine ⟨b0, us, rfl, .inl (.inl rd), fun l hl => ?_⟩
        have hP : PoS p c (some (m3.set j .sh)) Z H OW (cp2 env (e.f (env.set j none)) (b.f (env.set j none)) (cpF (env.set j none) j ds)) En := hP
        have sm1 : Same H1 (upd H1 l (.lst us)) := same_upd hl
        obtain ⟨OW2, a2, b2, c2⟩ := (E1.same sm1).sl.kill j (some (.ref l)) none
        have E2 : ER p.cm (m1.set j .dead) Z1 (upd H1 l (.lst us)) (σ.set j (some (.ref l))) (env.set j none) OW2 := ⟨a2, c2 E1.nd, fun x hx => (E1.wr x (b2 x hx)).same sm1, fun x hx => E1.dis x (b2 x hx), fun x q => Same.gro sm1 x (E1.tr x q), E1.sub⟩
        have lj : j < σ.length := by
          have := E1.sl.lens.1
          omega
        show (tAsg (e.t p) (gSub (tVar j) (b.t p) rSetL)) En (σ.set j (some (.ref l))) (upd H1 l (.lst us))
        refine e.ok p (m1.set j .dead) ke m2 h2 Z1 _ _ _ OW2 _ E2 ?_
        cases qe : e.f (env.set j none) with
        | none => rw [qe] at hP; exact hP.elim
        | some re =>
          rw [qe] at hP
          cases re with
          | ex _ _ => exact hP.elim
          | ok x =>
            intro vx H2 fx Z2 OWx ex sx Ex rx Kx
            obtain ⟨Zw, sw, Ew, Kw, w1, w2, w3⟩ := Kx.weak (k2 := .sh) sx Ex rx.trk hle
            refine ⟨.ref l, List.getElem?_set_self lj, ?_⟩
            refine b.ok p m2 k3 m3 h3 Zw H2 _ _ OWx _ Ew ?_
            cases qb : b.f (env.set j none) with
            | none => rw [qb] at hP; exact hP.elim
            | some rb =>
              rw [qb] at hP
              cases rb with
              | ex _ _ => exact hP.elim
              | ok kd =>
                have hP : PoS p c (some (m3.set j .sh)) Z H OW (cpF (env.set j none) j ds x kd) En := hP
                intro vk H3 f3 Z3 OW3 e3 s3 E3 r3 K3
                cases kd with
                | int i =>
                  obtain ⟨rfl, _⟩ := r3.int_of
                  have hP : PoS p c (some (m3.set j .sh)) Z H OW (match ixN ds.length i with
                    | some n => if n < ds.length then some (.nx ((env.set j none).set j (some (.lst (ds.set n x))))) else none
                    | none => none) En := hP
                  cases qi : ixN ds.length i with
                  | none => rw [qi] at hP; exact hP.elim
                  | some n =>
                    rw [qi] at hP
                    have hP : PoS p c (some (m3.set j .sh)) Z H OW (if n < ds.length then some (.nx ((env.set j none).set j (some (.lst (ds.set n x))))) else none) En := hP
                    split at hP
                    case isFalse => exact hP.elim
                    next hn =>
                    have l3 : H3 l = some (.lst us) := e3 _ _ (ex _ _ upd_same)
                    refine ⟨l, us, i, n, rfl, rfl, l3, by rw [rr.length]; exact qi, ?_⟩
                    -- the new list is nobody's
                    have nz1 : ¬ Z1.n l := fun q => E1.tr l q hl
                    have no1 : l ∉ OW1 := fun q => E1.sl.trk l q hl
                    have nz2 : ¬ Zw.n l := fun q => by
                      rcases sw.n2 l q with z | z | z
                      · exact nz1 z
                      · exact no1 (b2 l z)
                      · rw [upd_same] at z; cases z
                    have nox : l ∉ OWx := fun q => by
                      rcases sw.ow l q with z | z
                      · exact no1 (b2 l z)
                      · rw [upd_same] at z; cases z
                    have h2l : H2 l = some (.lst us) := ex _ _ upd_same
                    have nz3 : ¬ Z3.n l := fun q => by
                      rcases s3.n2 l q with z | z | z
                      · exact nz2 z
                      · exact nox z
                      · rw [h2l] at z; cases z
                    have no3 : l ∉ OW3 := fun q => by
                      rcases s3.ow l q with z | z
                      · exact nox z
                      · rw [h2l] at z; cases z
                    have E4 := E3.freshL (o' := .lst (us.set n vx)) l3 nz3 no3
                    -- the parts
                    have fS : ∀ y ∈ fx, Z3.s y := fun y hy => s3.s1 y (Kw y hy)
                    have gS : ∀ y ∈ g, Z3.s y := fun y hy => s3.s1 y (sw.s1 y (K1 y (List.mem_cons_of_mem _ hy)))
                    have nl : ∀ y, Z3.s y → y ≠ l := fun y q z => nz3 (z ▸ E3.sub y q)
                    have rx4 := (rx.same e3).offl (o' := .lst (us.set n vx)) l3 fun y hy => nl y (fS y hy)
                    have rr4 := (((rr.same sm1).same ex).same e3).offl (o' := .lst (us.set n vx)) l3 fun y hy => nl y (gS y hy)
                    obtain ⟨f', rf, sf⟩ := rr4.setAtS n _ (List.getElem?_eq_getElem hn) rx4
                    have E5 := E4.share (f := [l]) fun y hy => by
                      have : y = l := by simpa using hy
                      subst this
                      exact ⟨no3, by rw [upd_same]; intro z; cases z⟩
                    obtain ⟨OW6, E6, so6⟩ := E5.put (i := j) (k := .sh) (m := .sh) hj3 (RpL.lst1 (.inl upd_same) rf) (fun y hy => by
                      rcases List.mem_cons.mp hy with rfl | hy
                      · exact .inr (List.mem_singleton_self _)
                      · rcases sf y hy with z | z
                        · exact .inl (gS y z)
                        · exact .inl (fS y z)) rfl
                    rw [List.set_set] at E6
                    have hHl : H l = none := hn_of s1.gro hl
                    have fr : Fr OW H (upd H3 l (.lst (us.set n vx))) := fun y o hy _ => by
                      rw [upd_ne (fun z => by rw [z, hHl] at hy; cases hy)]
                      exact e3 _ _ (ex _ _ (sm1 _ _ (e1 _ _ hy)))
                    have sK : Stp Z1 OW1 H1 Z1 OW2 (upd H1 l (.lst us)) := ⟨fun y hy => .inl (b2 y hy), fun _ q => q, fun _ q => q, fun _ q => .inl q, fun _ q => .inl q, Same.gro sm1⟩
                    have st0 : Stp Z OW H Z3 OW3 H3 := ((s1.trans sK).trans sw).trans s3
                    have st1 : Stp Z OW H Z3 OW3 (upd H3 l (.lst (us.set n vx))) := ⟨st0.ow, st0.n1, st0.s1, st0.n2, st0.s2, fun y hy => upd_some y (st0.gro y hy)⟩
                    have st2 := st1.share (f := [l]) fun y hy => by
                      have : y = l := by simpa using hy
                      subst this
                      exact .inr hHl
                    have sub6 : ∀ y ∈ OW6, y ∈ OW3 := fun y hy => (so6 y hy).elim id fun z => by cases z.1
                    have hP := hP (m3.set j .sh) rfl (σ.set j (some (.ref l))) (upd H3 l (.lst (us.set n vx))) _ OW6 fr ⟨fun y hy => st2.ow y (sub6 y hy), st2.n1, st2.s1, st2.n2, st2.s2, st2.gro⟩ E6
                    exact hP
                | _ => exact hP.elim
/-! ### text == text -/
def eqsF (x y : D) : Option (R D) := match x, y with
  | .str a, .str b => some (.ok (.bl (decide (a = b))))
  | _, _ => none
def XE.eqs (a b : XE) : XE where
  t p := tOp rEq (a.t p) (b.t p)
  f env := b2 (a.f env) (b.f env) eqsF
  mo ms := match moTwo a b ms with
    | some (_, _, m2) => some (.own, m2)
    | none => none
  ok p ms k ms' hm Z H σ env OW Q E hP := by
    split at hm
    case h_2 => cases hm
    next k1 k2 m2 e =>
    cases hm
    obtain ⟨m1, h1, h2⟩ := moTwo_of e
    refine XE.two a b h1 h2 E hP fun d1 d2 v1 v2 H2 f1 f2 Z2 OW2 _ _ e2 s2 E2 r1 r2 _ _ _ hP2 => ?_
    unfold eqsF at hP2
    split at hP2
    case h_2 => exact hP2.elim
    next x y _ _ =>
    obtain ⟨rfl, _⟩ := r1.str_of
    obtain ⟨rfl, _⟩ := r2.str_of
    have ed : decide (V.str x = V.str y) = decide (x = y) := decide_eq_decide.mpr ⟨fun z => by cases z; rfl, fun z => by rw [z]⟩
    exact ⟨rfl, by rw [ed]; exact hP2 _ H2 [] Z2 OW2 e2 s2 E2 (RpL.at rfl) (KdOk.nil _)⟩
end DL
set_option maxRecDepth 100000
namespace DL
open PySem PySem.Spec PyProof.Rows L2
/-! ### exceptions of classes with an own __init__ that hands a text to HoleError's and keeps one field -/
def oxB (K : PySem.W.Frag) (C : Addr) : Bool := match K.lookup C with
  | some ⟨.type "type", _, .cls cd, sl⟩ => (match cd.mro, sl.toList with
    | .ref C' :: bm, [_, _, _, _, some (.builtin n), _] => C' == C && n == "ValueError.__new__" && cd.hasDict && !cd.hasDel && PySem.HandSPX.refsVE bm
    | _, _ => false)
  | _ => false
theorem ox_of {K : PySem.W.Frag} {C : Addr} (h : oxB K C = true) : ∃ nm q N bs bm sn sub ab col dd k0 k1 k2 k3 k5, K.lookup C = some (excClassObj nm q C N bs bm true sn sub ab col dd k0 k1 k2 k3 k5 "ValueError.__new__") ∧ PySem.HandSPX.refsVE bm = true := by
  unfold oxB at h
  split at h
  case h_2 => cases h
  next dd cd sl found =>
  split at h
  case h_2 => cases h
  next C' bm k0 k1 k2 k3 n k5 mro slots =>
  simp only [Bool.and_eq_true, beq_iff_eq, Bool.not_eq_true'] at h
  obtain ⟨⟨⟨⟨rfl, rfl⟩, hd⟩, nd⟩, rv⟩ := h
  obtain ⟨nm, bs, mr, ns, qn, hd', sn, sub, ab, col, del⟩ := cd
  dsimp only at mro hd nd
  subst mro hd nd
  have es : sl = #[k0, k1, k2, k3, some (.builtin "ValueError.__new__"), k5] := by
    obtain ⟨l⟩ := sl
    have slots : l = _ := slots
    rw [slots]
  subst es
  exact ⟨nm, qn, ns, bs, bm, sn, sub, ab, col, dd, k0, k1, k2, k3, k5, found, rv⟩
def iniA (K : PySem.W.Frag) (D : Str) : Addr := match PySem.W.findIn K (.ref (clsA K D)) "__init__" with
  | some (some (.ref a)) => a
  | _ => 0
abbrev hoE : Str := "HoleError"
def xOwnB (K : PySem.W.Frag) (D f : Str) : Bool := oxB K (clsA K D) && decide (PySem.W.findIn K (.ref (clsA K D)) "__setattr__" = some (some (.builtin "object.__setattr__"))) && decide (PySem.W.subIn K (.ref (clsA K D)) (.type "BaseException") = some true) && decide (PySem.W.typeIn K (.ref (clsA K D)) = some (.type "type")) && PySem.W.keepIn K (.ref (clsA K D)) &&
  decide (PySem.W.findIn K (.ref (clsA K D)) "__init__" = some (some (.ref (iniA K D)))) && decide (PySem.W.typeIn K (.ref (iniA K D)) = some (.type "function")) && decide (PySem.W.findIn K (.ref (clsA K D)) f = some none) && decide (PySem.W.nsIn K mainGlobals D = some (some (.ref (clsA K D)))) &&
  decide (PySem.W.specialIn K (.ref (clsA K hoE)) "__getattribute__" = some (some (.builtin "type.__getattribute__"))) && PySem.W.readsIn K (clsA K hoE) (.type "type") && decide (PySem.W.findIn K (.ref (clsA K hoE)) "__init__" = some (some (.builtin "ValueError.__init__"))) && decide (PySem.W.nsIn K mainGlobals hoE = some (some (.ref (clsA K hoE)))) && (match PySem.W.findCls K (.ref (clsA K hoE)) (.type "type") "__init__" with | some (.val (.builtin "ValueError.__init__")) => true | _ => false)
structure XOwn (K : PySem.W.Frag) (mg : Str → Option Value) (D f : Str) : Prop where
  ex : OexC K (clsA K D)
  ini : PySem.W.findIn K (.ref (clsA K D)) "__init__" = some (some (.ref (iniA K D)))
  ty : PySem.W.typeIn K (.ref (iniA K D)) = some (.type "function")
  no : PySem.W.findIn K (.ref (clsA K D)) f = some none
  gD : mg D = some (.ref (clsA K D))
  h1 : PySem.W.specialIn K (.ref (clsA K hoE)) "__getattribute__" = some (some (.builtin "type.__getattribute__"))
  h2 : PySem.W.readsIn K (clsA K hoE) (.type "type") = true
  h3 : PySem.W.findCls K (.ref (clsA K hoE)) (.type "type") "__init__" = some (.val (.builtin "ValueError.__init__"))
  gH : mg hoE = some (.ref (clsA K hoE))
theorem xo_mk {K : PySem.W.Frag} {h : Heap} {mg : Str → Option Value} {D f : Str} (X : K.In h) (G : h.Ns mainGlobals mg) (e : xOwnB K D f = true) : XOwn K mg D f := by
  unfold xOwnB at e
  simp only [Bool.and_eq_true, decide_eq_true_eq] at e
  obtain ⟨⟨⟨⟨⟨⟨⟨⟨⟨⟨⟨⟨⟨a1, a2⟩, a3⟩, a4⟩, a5⟩, a6⟩, a7⟩, a8⟩, a9⟩, a10⟩, a11⟩, a12⟩, a13⟩, a14⟩ := e
  refine ⟨⟨ox_of a1, a2, a3, a4, a5⟩, a6, a7, a8, PySem.W.mg_of X G a9, a10, a11, ?_, PySem.W.mg_of X G a13⟩
  split at a14
  · next h => exact h
  · cases a14
/-! ### the def __init__ -/
section
variable {X : Cx} {B : Str} {CB : Addr} {e : Expr} {es : List Expr} {ta : TA} {p1 p2 pos : Pos}
theorem pe_hoinit {pl : Sem Bool} (hg : Gl X B) (gm : X.mg B = some (.ref CB)) (h1 : PySem.W.specialIn X.K (.ref CB) "__getattribute__" = some (some (.builtin "type.__getattribute__"))) (h2 : PySem.W.readsIn X.K CB (.type "type") = true)
    (h3 : PySem.W.findCls X.K (.ref CB) (.type "type") "__init__" = some (.val (.builtin "ValueError.__init__"))) (ha : PA X (e :: es) ta) (hdb : (B == ("__debug__" : Str)) = false := by decide)
    (hc : eval (.Call (.Attribute (.Name B p1) "__init__" p2) (e :: es) [] pos) X.env = (do
      let ov ← eval (.Name B p1) X.env
      standAt p2.atName
      let (f, first) ← holding [ov] (getMethod ov "__init__" pl)
      callWith pos f first (backTo pos (starEach (e :: es) X.env)) (backToKw pos (keywordEach [] X.env))) := by rfl)
    (he : starEach (e :: es) X.env = (false, eval e X.env) :: starEach es X.env := by rfl) (hpl : (backTo pos (starEach es X.env)).any (·.1) = false := by rfl) :
    PE X (.Call (.Attribute (.Name B p1) "__init__" p2) (e :: es) [] pos) (tVeI X.K ta) := by
  refine ⟨fun pins s σ H Q I h => PySem.W.methodCall_KW (ld_glob I hg gm ?_ hdb) hc⟩
  refine PySem.W.method_cls I.kIn h1 (PySem.W.cls_value I.kIn h2 h3 (by decide +kernel) ?_)
  refine PyProof.Rows.callWith_method1 (thn (ha.run pos pins _ σ H _ (I.tok _) h) ?_) he hpl
  rintro us s1 ⟨vs, H1, I1, r1, a, C, ws, ev, hl, T, ea, q⟩
  subst ev
  cases r1 with
  | @cons _ u0 _ ur ra rw' =>
    obtain rfl : u0 = Value.ref a := ra
    have fits : ur.length ≤ sizeLine := by
      rw [← Paired.length rw', sizeLine_eq]
      omega
    exact oinit_ok T I1 ea fits fun s' J => ⟨.non, H1, J, rfl, q⟩
end
/-- what such an __init__ promises -/
def spI (C : Addr) (f : Str) : Sp := fun vs H Q _ => ∃ (a : Addr) (y : V), vs = [.ref a, y] ∧ H a = some (exo a C none) ∧ ∀ dx, H dx = none → dx ≠ a → Q .non (upd (upd H dx (exd dx [(f, y)])) a (exo a C (some dx)))
section
variable {P : Program} {w : World} {K : PySem.W.Frag} {mg : Str → Option Value} {base : Heap}
theorem ini_ok {D f m p : Str} {st : Stmt} {qual : Str} {fI : Addr} {fd : FuncData} (T : XOwn K mg D f) (F : Fun K "__init__" qual st fI fd) (S : FnScope ["self", p] ["self", p] (defScope st))
    (walk : ∀ (cdv : Value) (A : Around) (outer : List Env) (s : Shared) (H : Hp) (E : XK), Room 0 (A.deeper (envOfC qual (defScope st) s.heap.objs.size fI cdv)) →
      PSs (cxOf (L2N.CX P w) P w K mg base ["self", p] qual (defScope st) fI cdv A outer s H E) (defBody st) (tSeq (tDrop (tVeI K (tCons (tVar 0) (tCons (tC (.str m)) tNil)))) (tOst K f (tVar 0) (tVar 1)))) :
    FnOk P w K mg base (L2N.CX P w) 1 fI fd ["self", p] (spI (clsA K D) f) := by
  obtain ⟨oc, od, kV, doc, pm, an, cdv, ct, osl, rfl, lk, hcd⟩ := F.ex
  refine fn_of lk hcd S (fun vs H Q E h => by obtain ⟨a, y, rfl, _⟩ := h; rfl) fun A outer s H vs Q E hr h => ?_
  obtain ⟨a, y, rfl, ha, hq⟩ := h
  refine ⟨_, walk cdv A outer s H E hr, ?_⟩
  refine ⟨.ref a, rfl, a, clsA K D, [.str m], rfl, (by show (1 : Nat) ≤ 1000; decide), T.ex, ha, y, rfl, .ref a, rfl, a, clsA K D, rfl, T.ex, T.no, .inl ⟨ha, fun dx n1 n2 => hq dx n1 n2⟩⟩
end
/-! ### raise D(e) -/
section
variable {X : Cx}
theorem pmk_ini {D f p : Str} {e : Expr} {te : TE} {fd : FuncData} {px pos : Pos} (T : XOwn X.K X.mg D f) (F : FnOk X.prog X.w X.K X.mg X.base (L2N.CX X.prog X.w) 1 (iniA X.K D) fd ["self", p] (spI (clsA X.K D) f)) (hr : Room 2 X.A) (hb : Binds X.K fd ["self", p] [])
    (hx : Passes (L2N.CX X.prog X.w) X (fun _ _ _ => False)) (hg : Gl X D) (hE : PE X e te) (hdb : (D == ("__debug__" : Str)) = false := by decide) (he : starEach [e] X.env = (false, eval e X.env) :: starEach [] X.env := by rfl) (hpl : (backTo pos (starEach [] X.env)).any (·.1) = false := by rfl) :
    L2N.PMk X (.Call (.Name D px) [e] [] pos) (fun σ H Q => tCons te tNil σ H fun vs H1 => ∃ y, vs = [y] ∧ ∀ d, H1 d = none → Q (.ref (clsA X.K D)) (some d) (upd H1 d (.xd [(f, y)]))) := by
  intro pins s σ H Q I h
  obtain ⟨nm, q, N, bs, bm, sn, sub, ab, col, dd, k0, k1, k2, k3, k5, hC, hbm⟩ := T.ex.cls
  refine wpAny_Call_Name_kw (ld_glob I hg T.gD ?_ hdb)
  have ha : PA X [e] (tCons te tNil) := pa_cons hE pa_nil he
  refine PySem.W.callWith_K (h₀ := X.base) I.ok.mod.kin T.ex.kC (thn (ha.run pos pins s σ H _ I h) ?_) he hpl
  rintro us s1 ⟨vs, H1, I1, r1, y, rfl, q1⟩
  refine ⟨I1.kIn, ?_⟩
  obtain ⟨u, rfl, ru⟩ := vals1 r1
  show wpAny _ _ (call (.ref (clsA X.K D)) [u]) _ _ _
  obtain ⟨hp, g, dr, tk, os⟩ := s1
  have none1 : H1 (hp.objs.size + 1) = none := I1.hok.fresh (Nat.le_succ _)
  have more : ∀ b o, hp.get? b = some o → ((hp.push (PySem.W.kdv_tup [u])).push (PySem.HandSPX.excO (clsA X.K D) hp.objs.size)).get? b = some o := fun b o z => Heap.get?_push_of_some _ (Heap.get?_push_of_some _ z)
  have here : ((hp.push (PySem.W.kdv_tup [u])).push (PySem.HandSPX.excO (clsA X.K D) hp.objs.size)).get? (hp.objs.size + 1) = some (PySem.HandSPX.excO (clsA X.K D) hp.objs.size) := by heap_get
  have I2 := I1.laid (t' := tk) (a := hp.objs.size + 1) (o := exo (hp.objs.size + 1) (clsA X.K D) none) more (Nat.le_succ _) (exo_ok here)
  have conv : ∀ dx, H1 dx = none → dx ≠ hp.objs.size + 1 → upd (del (upd (upd (upd H1 (hp.objs.size + 1) (exo (hp.objs.size + 1) (clsA X.K D) none)) dx (exd dx [(f, y)])) (hp.objs.size + 1) (exo (hp.objs.size + 1) (clsA X.K D) (some dx))) (hp.objs.size + 1)) dx (.xd [(f, y)]) = upd H1 dx (.xd [(f, y)]) := by
    intro dx n1 n2
    funext b
    by_cases hbd : b = dx
    · rw [hbd, upd_same, upd_same]
    · rw [upd_ne hbd, upd_ne hbd]
      by_cases hba : b = hp.objs.size + 1
      · rw [hba, del_same, none1]
      · rw [del_ne hba, upd_ne hba, upd_ne hbd, upd_ne hba]
  have sp : spI (clsA X.K D) f [.ref (hp.objs.size + 1), y] (upd H1 (hp.objs.size + 1) (exo (hp.objs.size + 1) (clsA X.K D) none)) (fun v H2 => v = .non ∧ ∃ (d : Addr) (fs : List (Str × V)), H2 (hp.objs.size + 1) = some (exo (hp.objs.size + 1) (clsA X.K D) (some d)) ∧ H2 d = some (exd d fs) ∧ H1 d = none ∧ Q (.ref (clsA X.K D)) (some d) (upd (del H2 (hp.objs.size + 1)) d (.xd fs))) (fun _ _ _ => False) := by
    refine ⟨_, y, rfl, upd_same, fun dx n1 n2 => ⟨rfl, dx, [(f, y)], upd_same, ?_, ?_, ?_⟩⟩
    · rw [upd_ne n2, upd_same]
    · rwa [upd_ne n2] at n1
    · rw [upd_ne n2] at n1
      rw [conv dx n1 n2]
      exact q1 dx n1
  have b2 := hb ⟨(hp.push (PySem.W.kdv_tup [u])).push (PySem.HandSPX.excO (clsA X.K D) hp.objs.size), g, dr, tk, os⟩ [.ref (hp.objs.size + 1), u] I2.kIn rfl
  have rel : Vals [V.ref (hp.objs.size + 1), y] [Value.ref (hp.objs.size + 1), u] := .cons rfl (.cons ru .nil)
  refine wpAny_call (PySem.HandSPX.call_own PySem.F.excBase_ValueError (fun Y => PySem.HandSPX.refsVE_contains Y bm hbm) (I1.kIn _ _ hC) (PySem.W.looks_findIn I1.kIn T.ini) (fun self => PySem.W.bind_fn I1.kIn self T.ty) (by show (1 : Nat) ≤ sizeLine; decide)
    (codeAny_mono (F.run _ X.stack _ _ ⟨[.ref (hp.objs.size + 1), u], []⟩ [.ref (hp.objs.size + 1), u] _ _ (fun _ _ _ => False) (hr.make (clsA X.K D) [u] []) (I2.env0.make (clsA X.K D) [u] []) b2 rel sp) ?_))
  intro r s' res
  cases r with
  | error er => exact hx pins σ _ _ er s' I2 res
  | ok flow =>
    cases flow with
    | next => exact False.elim res
    | brk => exact False.elim res
    | cont => exact False.elim res
    | ret v0 =>
      obtain ⟨v, H2, os2, bare2, un2, hok2, rv, ev, d, fs, ea, ed, hd1, q2⟩ := res
      subst ev
      obtain ⟨h2, g2, d2, t2, os'⟩ := s'
      obtain ⟨t0, G, J, kG, ge, hoe, na⟩ := mk_end0 (d2 := d2) (t2 := t2) I1 (Nat.le_succ _) more un2 hok2 os2 bare2 ea ed hd1
      exact ⟨rv, ⟨_, _, _, ⟨G, g2, d2, t2, os'⟩, _, .ref (clsA X.K D), some d, rfl, J, kG, ge, hoe, ⟨rfl, rfl, fun vs hv => by cases hv; rfl⟩, rfl, rfl, na, rfl, bare2, raises_own T.ex.exC T.ex.tyC, q2⟩⟩
/-- raise D(e), the field kept -/
theorem ps_raiseI {W : WX} {D f p : Str} {e : Expr} {te : TE} {fd : FuncData} {px pos pos' : Pos} (T : XOwn X.K X.mg D f) (F : FnOk X.prog X.w X.K X.mg X.base (L2N.CX X.prog X.w) 1 (iniA X.K D) fd ["self", p] (spI (clsA X.K D) f)) (hr : Room 2 X.A) (hb : Binds X.K fd ["self", p] [])
    (hc : X.calm = true) (tk : L2N.Takes X W) (hg : Gl X D) (hE : PE X e te) (hdb : (D == ("__debug__" : Str)) = false := by decide) (he : starEach [e] X.env = (false, eval e X.env) :: starEach [] X.env := by rfl) (hpl : (backTo pos (starEach [] X.env)).any (·.1) = false := by rfl) :
    PS X (.Raise (some (.Call (.Name D px) [e] [] pos)) none pos') (fun _ σ H => tCons te tNil σ H fun vs H1 => ∃ y, vs = [y] ∧ ∀ d, H1 d = none → W (.ref (clsA X.K D)) (some d) σ (upd H1 d (.xd [(f, y)]))) :=
  L2N.ps_raise hc tk (pmk_ini T F hr hb (L2N.passes_call tk fun _ _ _ _ z => z.elim) hg hE hdb he hpl)
end
/-- raise the class with number n, its field f told by e -/
def fldF (f : Str) (n : Nat) (env : EnvD) (r : Option (R D)) : Option Out := match r with
  | some (.ok d) => if immD d then some (.ex n (.ins 0 [(f, d)]) env) else none
  | _ => none
def XS.rsi (n : Nat) (f : Str) (e : XE) : XS where
  t p := fun _ σ H => tCons (e.t p) tNil σ H fun vs H1 => ∃ y, vs = [y] ∧ ∀ d, H1 d = none → p.W (.ref (p.cm.c n)) (some d) σ (upd H1 d (.xd [(f, y)]))
  f env := fldF f n env (e.f env)
  mo c ms := match e.mo ms with
    | some (_, m1) => if wk m1 c.mx then some none else none
    | none => none
  ok p c ms k hm Z H σ env OW En E hP := by
    split at hm
    case h_2 => cases hm
    next k1 m1 h1 =>
    split at hm
    case isFalse => cases hm
    next hx =>
    cases hm
    refine e.ok p ms k1 m1 h1 Z H σ env OW _ E ?_
    cases q : e.f env with
    | none => rw [q] at hP; exact hP.elim
    | some r =>
      rw [q] at hP
      cases r with
      | ex _ _ => exact hP.elim
      | ok d =>
        have hP : PoS p c none Z H OW (if immD d then some (.ex n (.ins 0 [(f, d)]) env) else none) En := hP
        split at hP
        case isFalse => exact hP.elim
        next him =>
        intro v H1 f1 Z1 OW1 e1 s1 E1 r1 K1
        have f0 : f1 = [] := r1.imm1 him
        subst f0
        refine ⟨v, rfl, fun a ha => ?_⟩
        have sm := same_upd (o := .xd [(f, v)]) ha
        obtain ⟨Z2, OW2, E2, s2⟩ := (E1.same sm).weak hx
        exact hP (some a) σ _ Z2 OW2 (Same.fr (e1.trans sm)) ((s1.trans (Stp.same sm)).trans s2) E2 ⟨a, [(f, v)], [], rfl, upd_same, rfl, r1.same sm⟩
end DL
set_option maxRecDepth 100000
namespace DL
open PySem PySem.Spec PyProof.Rows L2
/-! ### try with several clauses «except C as n», one name n -/
abbrev Suite := Addr → Value → Option Addr → TS
def back (D : Ends) (i : Nat) : Ends := { nx := fun σ' H' => D.nx (σ'.set i none) H', rt := D.rt, bk := fun σ' H' => D.bk (σ'.set i none) H', ct := fun σ' H' => D.ct (σ'.set i none) H' }
def wAll (K : PySem.W.Frag) (i : Nat) (Wout : WX) (D : Ends) : List (Value × Suite) → WX
  | [] => Wout
  | (c, ts) :: r => fun cls d σ H => ∃ b, PySem.W.exmOne K cls c = some b ∧ (b = true → ∀ a, H a = none → ts a cls d (back D i) (σ.set i (some (.ref a))) H) ∧ (b = false → wAll K i Wout D r cls d σ H)
inductive HdAs (X : Cx) (n : Str) : List ExceptHandler → List (Value × Suite) → Prop
  | nil : HdAs X n [] []
  | cons {x : Str} {c : Value} {ts : Suite} {b₀ : Stmt} {suite : List Stmt} {np pos' : Pos} {hds : List ExceptHandler} {l : List (Value × Suite)} (name : Names X x c)
      (run : ∀ (a : Addr) (oe : Obj) (cls : Value) (d : Option Addr) (pn : List (Addr × Obj)), L2N.Zn cls d oe → (∃ vs, oe.data = .fields vs) → PSs (X.suite a ((a, oe) :: pn)) (b₀ :: suite) (ts a cls d)) (rest : HdAs X n hds l) :
      HdAs X n (.ExceptHandler (some (.Name x np)) (some n) (b₀ :: suite) pos' :: hds) ((c, ts) :: l)
section
variable {X : Cx} {n : Str} {i : Nat} {body : List Stmt} {h₀ : ExceptHandler} {hds : List ExceptHandler} {l : List (Value × Suite)} {pos : Pos} {tb : WX → TS} {Wout : WX}
theorem ps_tryAll (stk : X.stack = X.env :: X.outer) (frm : X.env.frame = some X.env.locals) (nd : X.N.Nodup) (at_i : X.N[i]? = some n) (isl : X.env.kindOf n = some .local) (tk : L2N.Takes X Wout)
    (hb : ∀ (W : WX) (pn : List (Addr × Obj)) (xe : Value → Shared → Prop), L2N.Takes (X.tr pn xe) W → PassesOwn (model X.prog X.w) X.A X.env xe → PSs (X.tr pn xe) body (tb W))
    (clauses : HdAs X n (h₀ :: hds) l) : PS X (.Try body (h₀ :: hds) [] [] pos) (fun D σ H => tb (wAll X.K i Wout D l) D σ H) := by
  refine ⟨fun pins s σ H D I h => ?_⟩
  have ok := I.ok
  have frames : X.A.frames = some (X.env :: X.outer) := ok.frames.trans (congrArg some stk)
  let xe' : Value → Shared → Prop := fun e s₁ => wpAny (model X.prog X.w) X.A (noteFrame e X.env) (fun _ s₂ => wpAny (model X.prog X.w) X.A (setFlight e none) (fun _ s₃ => wpAny (model X.prog X.w) X.A (handleBy e X.env (h₀ :: hds)) (SP X pins D) X.xe s₃) X.xe s₂) X.xe s₁
  have taken : L2N.Takes (X.tr (X.pn ++ pins) xe') (wAll X.K i Wout D l) := by
    rintro u s' ⟨a, B, sI, pins', σ', H', cls, d, rfl, J', old, up, sky, na, os, ag, w⟩
    have J : Inv X pins σ' H' sI := J'.ofTry ok
    have sky : L2.Sky B (X.env :: X.outer) a (L2N.Zn cls d) X.env.locals s'.heap := by rw [← stk]; exact sky
    show wpAny (model X.prog X.w) X.A (noteFrame (.ref a) X.env) _ _ _
    refine L2N.Sky.land L2N.Zn.steady frames frm sky fun h3 fly up3 => ?_
    have J3 : Inv X pins σ' H' { s' with heap := h3 } := J.landed old fly.1 (up.trans up3) os ag
    obtain ⟨o3, vs3, get3, z3, dat3⟩ := fly.there
    have notF : a ∉ frs (X.env :: X.outer) := fun hm => by
      obtain ⟨_, o', g', no⟩ := fly.2.2.1.mem hm
      rw [get3] at g'
      cases g'
      exact no _ dat3
    have notL : a ≠ X.env.locals := fun z => notF (List.mem_filterMap.mpr ⟨X.env, List.mem_cons_self, by rw [frm, z]⟩)
    have notO : a ∉ X.fs := fun hm => by
      obtain ⟨e, he, q⟩ := List.mem_filterMap.mp hm
      exact notF (List.mem_filterMap.mpr ⟨e, List.mem_cons_of_mem _ he, q⟩)
    have S3 := J3.suite get3 dat3 na notL notO
    have go : ∀ {hds' : List ExceptHandler} {l' : List (Value × Suite)}, HdAs X n hds' l' → wAll X.K i Wout D l' cls d σ' H' → wpAny (model X.prog X.w) X.A (handleBy (.ref a) X.env hds') (SP X pins D) X.xe { s' with heap := h3 } := by
      intro hds' l' hk
      induction hk with
      | nil =>
        intro w
        refine wpAny_handleBy_nil ?_
        obtain ⟨_, _, _, oe, vs, T, _, _, get, _, dat, one, _⟩ := id fly
        unfold PySem.passOn
        refine wpAny_bind (wpAny_field get dat one ?_)
        rw [if_neg (show ¬ ((Value.ref T == Value.none) = true) from by simp)]
        have on : wpAny (model X.prog X.w) X.A (setFlight (.ref a) X.env.frame) (fun _ s4 => wpAny (model X.prog X.w) X.A (throw (.ref a) : Sem Flow) (SP X pins D) X.xe s4) X.xe { s' with heap := h3 } := by
          rw [frm]
          exact HandSPX.setFlight_upZ fly fun h4 held up4 => wpAny_throw (tk _ _ ⟨a, B, sI, pins, σ', H', cls, d, rfl, J, old, (up.trans up3).trans up4, .inr (.inr (by rw [stk]; exact held)), na, os, ag, w⟩)
        first
          | exact wpAny_bind (wpAny_pure (wpAny_bind on))
          | exact wpAny_bind on
      | @cons x c ts b₀ suite np pos' hds2 l2 name run rest ih =>
        rintro ⟨b, which, yes, no⟩
        refine wpAny_handleBy_cons (codeAny_handlers_test ?_) (by intro q; cases q)
        have ty : PySem.W.Looks (model X.prog X.w) h3 (typeOf (.ref a)) cls := fun A Q E s k q => wpAny_typeOf_ref (k _ _ get3) (by rw [z3.1]; exact q)
        have found := PySem.W.exm_one (M := model X.prog X.w) J3.kIn ty which
        have cls_ok : ∀ {Q : Value → Shared → Prop} {E : Value → Shared → Prop}, Q c { s' with heap := h3 } → wpAny (model X.prog X.w) (X.A.mark (some (.ref a))) (eval (.Name x np) X.env) Q E { s' with heap := h3 } := fun {Q E} q => by
          obtain ⟨g, dbg, m | ⟨m, v, nn⟩⟩ := name
          · exact ld_glob (X := X.suite a ((a, o3) :: (X.pn ++ pins))) S3 g m q dbg
          · exact ld_blt (X := X.suite a ((a, o3) :: (X.pn ++ pins))) S3 g m v q nn dbg
        refine cls_ok (found.here ?_)
        cases b with
        | false => exact ih (no rfl)
        | true =>
          refine codeAny_handlers_suite_as (HandSPX.lands_againZ fly fun h4 fly4 up4 => ?_)
          have J4 : Inv X pins σ' H' { s' with heap := h4 } := J.landed old fly4.1 ((up.trans up3).trans up4) os ag
          obtain ⟨o4, vs4, get4, z4, dat4⟩ := fly4.there
          have S4 := J4.suite get4 dat4 na notL notO
          refine store_ok (X := X.suite a ((a, o4) :: (X.pn ++ pins))) (v := .ref a) S4 nd at_i (.inl isl) rfl (fun s5 S5 => ?_) (.inr isl)
          refine wpAny_mono ((run a o4 cls d (X.pn ++ pins) z4 ⟨_, dat4⟩).run [] s5 _ H' _ S5 (yes rfl a na)) (fun flow s6 res => ?_) (fun _ _ z => False.elim z)
          have gone : ∀ {σ6 : L2.St} {H6 : Hp} {Q : Shared → Prop}, Inv (X.suite a ((a, o4) :: (X.pn ++ pins))) [] σ6 H6 s6 → (∀ s7, Inv X pins (σ6.set i none) H6 s7 → Q s7) →
              wpAny (model X.prog X.w) X.A (do bindName X.env n .none; unbindBehindTheSuite X.env n pos') (fun _ s7 => Q s7) X.xe s6 := fun S6 q => gone_ok (S6.unsuite ok) nd at_i isl q
          cases flow with
          | next => exact let ⟨_, _, S6, q6⟩ := res; gone S6 fun s7 J7 => ⟨_, _, J7, q6⟩
          | brk => exact let ⟨_, _, S6, q6⟩ := res; gone S6 fun s7 J7 => ⟨_, _, J7, q6⟩
          | cont => exact let ⟨_, _, S6, q6⟩ := res; gone S6 fun s7 J7 => ⟨_, _, J7, q6⟩
          | ret u => exact let ⟨_, _, _, S6, r6, q6⟩ := res; gone S6 fun s7 J7 => ⟨_, _, _, J7, r6, q6⟩
    exact go clauses w
  refine wpAny_Try_except (wpAny_mono ((hb (wAll X.K i Wout D l) (X.pn ++ pins) xe' taken PassesOwn.looking).run [] s σ H D (I.toTry _) h) (fun flow s1 res => ?_) (fun e s1 he => he))
  cases flow with
  | next => exact let ⟨_, _, J, q⟩ := res; wpAny_execs_nil ⟨_, _, J.ofTry ok, q⟩
  | brk => exact let ⟨_, _, J, q⟩ := res; ⟨_, _, J.ofTry ok, q⟩
  | cont => exact let ⟨_, _, J, q⟩ := res; ⟨_, _, J.ofTry ok, q⟩
  | ret u => exact let ⟨_, _, _, J, r, q⟩ := res; ⟨_, _, _, J.ofTry ok, r, q⟩
end
/-! ### what a suite makes of an exception and its field -/
theorem ExD.same {cm : CM} {H H' : Hp} {dd : Option Addr} : ∀ {pl : D}, ExD cm H dd pl → Same H H' → ExD cm H' dd pl
  | .non, h, _ => h
  | .ins _ _, ⟨d, gs, g, a, b, c, r⟩, e => ⟨d, gs, g, a, e _ _ b, c, r.same e⟩
  | .bl _, h, _ => h.elim
  | .int _, h, _ => h.elim
  | .str _, h, _ => h.elim
  | .tup _, h, _ => h.elim
  | .lst _, h, _ => h.elim
  | .dct _, h, _ => h.elim
  | .scr _, h, _ => h.elim
def tNewG (dd : Option Addr) (pl : D) (cm : CM) (i : Nat) (a : Addr) (d : D) : TE := fun σ H Q => ExD cm H dd pl ∧ tNew cm i a d σ H Q
def tNewAG (dd : Option Addr) (pl : D) (cm : CM) (i : Nat) (a : Addr) (ds : List D) : TA := fun σ H Q => ExD cm H dd pl ∧ tNewA cm i a ds σ H Q
section
variable {X : Cx} {cm : CM} {i : Nat} {a : Addr} {e e2 : Expr} {es : List Expr} {pos : Pos} {dd : Option Addr} {pl : D}
theorem pe_offG {d : D} (h : PE X e (tNew cm i a d)) : PE X e (tNewG dd pl cm i a d) := pe_imp h fun _ _ _ q => q.2
theorem pa_nilG : PA X [] (tNewAG dd pl cm i a []) := ⟨fun pos pins s σ H Q I q => pa_nilD.run pos pins s σ H Q I q.2⟩
theorem pa_consG {d : D} {ds : List D} (h1 : PE X e (tNewG dd pl cm i a d)) (h2 : PA X es (tNewAG dd pl cm i a ds)) (him : immD d = true) (hs : starEach (e :: es) X.env = (false, eval e X.env) :: starEach es X.env := by rfl) : PA X (e :: es) (tNewAG dd pl cm i a (d :: ds)) :=
  ⟨fun pos pins s σ H Q I q => (pa_cons h1 h2 hs).run pos pins s σ H Q I ⟨q.1, q.2.1, fun v H' f sm r nd fr => by
    have := r.imm1 him
    subst this
    exact ⟨q.1.same sm, q.2.1, fun vs H2 sm2 r2 => q.2.2 (v :: vs) H2 (sm.trans sm2) (by have := (r.same sm2).cons1 r2; simpa using this)⟩⟩⟩
theorem pe_tupG {ds : List D} {x1} (h : PA X es (tNewAG dd pl cm i a ds)) (hl : ds.length ≤ sizeLine := by decide) : PE X (.Tuple es x1 pos) (tNewG dd pl cm i a (.tup ds)) :=
  pe_imp (pe_tup h) fun σ H Q q => ⟨q.1, q.2.1, fun vs H' sm r => ⟨by rw [r.length]; exact hl, fun p hp => by
    have e := same_upd (o := .tup vs) hp
    exact q.2.2 (.ref p) _ [] (sm.trans e) (RpL.tup1 (.inl upd_same) (r.same e)) List.nodup_nil (fun x hx => by cases hx)⟩⟩
end
theorem xIs_only {D C : Str} (h : xIs D C = true) (h1 : C ≠ hoE) (h2 : C ≠ vErr) : D = C := by
  unfold xIs at h
  simp only [Bool.or_eq_true, decide_eq_true_eq] at h
  rcases h with (h | h) | h
  · exact h.symm
  · exact absurd h h1
  · exact absurd h h2
/-- e.f of the exception in hand -/
theorem pe_fldG {X : Cx} {cm : CM} {a : Addr} {oe : Obj} {pn : List (Addr × Obj)} {i n : Nat} {x Dn f : Str} {Ds Cs : List Str} {dd : Option Addr} {dv : D} {px pos : Pos} (T : XOwn X.K X.mg Dn f) (F : XF X.K X.mg Ds Cs) (hn : n < Ds.length) (eD : Ds.getD n "" = Dn) (hz : L2N.Zn (.ref (clsA X.K (Ds.getD n ""))) dd oe) (hf : ∃ vs, oe.data = .fields vs)
    (him : immD dv = true) (hx : PE (X.suite a ((a, oe) :: pn)) (.Name x px) (tVar i)) (hb : attributeBase (.Name x px) f X.env (eval (.Name x px) X.env) = eval (.Name x px) X.env := by rfl) :
    PE (X.suite a ((a, oe) :: pn)) (.Attribute (.Name x px) f pos) (tNewG dd (.ins 0 [(f, dv)]) cm i a dv) := by
  have hD : Ds.getD n "" ∈ Ds := by
    rw [List.getD_eq_getElem?_getD, List.getElem?_eq_getElem hn]
    exact List.getElem_mem _
  obtain ⟨_, _, h3, _⟩ := XF.parts (F.raise _ hD)
  rw [eD] at hz h3
  refine pe_imp (pe_xf (X := X) (d := dd) ⟨h3.hg, h3.hk, h3.hs, h3.hd⟩ T.no hz.zc hf hx hb) ?_
  rintro σ H Q ⟨⟨d, gs, g, rfl, hg, hk, hr⟩, hs, q⟩
  refine ⟨.ref a, hs, rfl, rfl, ?_⟩
  match gs, hk, hr, hg with
  | [(f', v)], hk, hr, hg =>
    have ef : f' = f := by simpa using hk
    subst ef
    have g0 : g = [] := hr.imm1 him
    subst g0
    exact ⟨d, [(f', v)], v, rfl, hg, by simp [List.lookup], q v H [] (Same.refl H) hr List.nodup_nil fun x hx => by cases hx⟩
/-- isinstance of the exception in hand, which may have a dict -/
def rIsG (K : PySem.W.Frag) (C a : Addr) (dd : Option Addr) : List V → Hp → VK → Prop := fun xs H Q => (dd = none ∨ ∃ d gs, dd = some d ∧ H d = some (.xd gs)) ∧ rIsE K C a xs H Q
theorem call_isG {X : Cx} {a C : Addr} {oe : Obj} {dd : Option Addr} {pn : List (Addr × Obj)} (x : ExcC X.K C) (hz : Zc (.ref C) dd oe) (hf : ∃ vs, oe.data = .fields vs) : CallR (X.suite a ((a, oe) :: pn)) (.builtin "isinstance") (rIsG X.K C a dd) := by
  rintro pins s σ H xs us Q I r ⟨hdd, c, cv, b, rfl, only, kit, q⟩
  obtain ⟨u1, u2, rfl, rx, rc⟩ := vals2 r
  cases rx
  have ec := only _ rc
  subst ec
  obtain ⟨found, _⟩ := I.pin (a, oe) (List.mem_append.mpr (.inl List.mem_cons_self))
  obtain ⟨vs, dat⟩ := hf
  obtain ⟨od, J⟩ : ∃ od, PySem.W.InstAt s.heap a oe C od := by
    rcases hdd with rfl | ⟨d, gs, rfl, hd⟩
    · exact ⟨none, found, hz.1, by unfold PySem.W.notCls; rw [dat] <;> rfl, by rw [hz.2]; trivial⟩
    · have hx : ObjOk X.prog X.w H s.heap d (.xd gs) := I.hok d _ hd
      obtain ⟨mA, hns, _⟩ := hx
      obtain ⟨od, ho, _⟩ := lookIn_ns hns
      exact ⟨some od, found, hz.1, by unfold PySem.W.notCls; rw [dat] <;> rfl, by rw [hz.2]; exact ho⟩
  have isc : (PySem.W.clsIn X.K C).isSome = true := by
    obtain ⟨cd, hc, _⟩ := PySem.W.any_some x.hd
    rw [hc]; rfl
  exact PySem.W.kia_one (PySem.W.kitx_exc isc x.hg x.hk x.hs x.ha x.hn x.ht x.hm) I.kIn J kit (fun z => nomatch z) fun tk => ⟨.bl b, H, I.kept (t' := tk) fun _ _ z => z, rfl, q⟩
theorem ExD.dict {cm : CM} {H : Hp} {dd : Option Addr} {pl : D} (h : ExD cm H dd pl) : dd = none ∨ ∃ d gs, dd = some d ∧ H d = some (.xd gs) := by
  cases pl with
  | non => exact .inl h
  | ins c fs => exact let ⟨d, gs, _, a, b, _⟩ := h; .inr ⟨d, gs, a, b⟩
  | _ => exact h.elim
theorem pe_isG {X : Cx} {cm : CM} {a : Addr} {oe : Obj} {pn : List (Addr × Obj)} {i n : Nat} {x C : Str} {Ds Cs : List Str} {dd : Option Addr} {pl : D} {p px pc pos : Pos} (F : XF X.K X.mg Ds Cs) (hn : n < Ds.length) (hz : L2N.Zn (.ref (clsA X.K (Ds.getD n ""))) dd oe) (hf : ∃ vs, oe.data = .fields vs)
    (hC : C ∈ Cs) (hce : C ≠ vErr) (hx : PE (X.suite a ((a, oe) :: pn)) (.Name x px) (tVar i)) (hgi : Gl X "isinstance") (hmi : X.mg "isinstance" = none) (hgC : Gl X C) (hdb : (C == ("__debug__" : Str)) = false := by decide) :
    PE (X.suite a ((a, oe) :: pn)) (.Call (.Name "isinstance" p) [.Name x px, .Name C pc] [] pos) (tNewG dd pl cm i a (.bl (xIs (Ds.getD n "") C))) := by
  have hD : Ds.getD n "" ∈ Ds := by
    rw [List.getD_eq_getElem?_getD, List.getElem?_eq_getElem hn]
    exact List.getElem_mem _
  obtain ⟨_, _, h3, _⟩ := XF.parts (F.raise _ hD)
  have hk := F.kit hD hC
  unfold xV at hk
  rw [if_neg hce] at hk
  have hcl : PE (X.suite a ((a, oe) :: pn)) (.Name C pc) (tC (.ref (clsA X.K C))) := pe_glob (X := X.suite a ((a, oe) :: pn)) (v := .ref (clsA X.K C)) (u := .ref (clsA X.K C)) hgC (F.gC C hC hce) rfl hdb
  refine pe_imp (pe_callB (X := X.suite a ((a, oe) :: pn)) (call_isG (X := X) (pn := pn) h3 hz.zc hf) hgi hmi boot_isinstance (pa_cons hx (pa_cons hcl pa_nil))) fun σ H Q q => ?_
  exact ⟨.ref a, q.2.1, q.1.dict, .ref (clsA X.K C), .ref (clsA X.K C), _, rfl, (fun u hu => hu), hk, q.2.2 _ H [] (Same.refl H) (RpL.at rfl) List.nodup_nil (fun x hx => by cases hx)⟩
theorem pe_isGV {X : Cx} {cm : CM} {a : Addr} {oe : Obj} {pn : List (Addr × Obj)} {i n : Nat} {x : Str} {Ds Cs : List Str} {dd : Option Addr} {pl : D} {p px pc pos : Pos} (F : XF X.K X.mg Ds Cs) (hn : n < Ds.length) (hz : L2N.Zn (.ref (clsA X.K (Ds.getD n ""))) dd oe) (hf : ∃ vs, oe.data = .fields vs)
    (hC : vErr ∈ Cs) (hx : PE (X.suite a ((a, oe) :: pn)) (.Name x px) (tVar i)) (hgi : Gl X "isinstance") (hmi : X.mg "isinstance" = none) (hgC : Gl X vErr) (hmV : X.mg vErr = none) :
    PE (X.suite a ((a, oe) :: pn)) (.Call (.Name "isinstance" p) [.Name x px, .Name vErr pc] [] pos) (tNewG dd pl cm i a (.bl (xIs (Ds.getD n "") vErr))) := by
  have hD : Ds.getD n "" ∈ Ds := by
    rw [List.getD_eq_getElem?_getD, List.getElem?_eq_getElem hn]
    exact List.getElem_mem _
  obtain ⟨_, _, h3, _⟩ := XF.parts (F.raise _ hD)
  have hk := F.kit hD hC
  unfold xV at hk
  rw [if_pos rfl] at hk
  have hcl : PE (X.suite a ((a, oe) :: pn)) (.Name vErr pc) (tC (.ty "ValueError")) := pe_bltn (X := X.suite a ((a, oe) :: pn)) (v := .ty "ValueError") (u := .type "ValueError") hgC hmV (by rfl) rfl
  refine pe_imp (pe_callB (X := X.suite a ((a, oe) :: pn)) (call_isG (X := X) (pn := pn) h3 hz.zc hf) hgi hmi boot_isinstance (pa_cons hx (pa_cons hcl pa_nil))) fun σ H Q q => ?_
  exact ⟨.ref a, q.2.1, q.1.dict, .ty "ValueError", .type "ValueError", _, rfl, (fun u hu => hu), hk, q.2.2 _ H [] (Same.refl H) (RpL.at rfl) List.nodup_nil (fun x hx => by cases hx)⟩
section
variable {X : Cx} {cm : CM} {i : Nat} {a : Addr} {e e2 : Expr} {rest : List Expr} {pos : Pos} {dd : Option Addr} {pl : D} {x y : Bool}
theorem pe_andG (h1 : PE X e (tNewG dd pl cm i a (.bl x))) (h2 : PE X (.BoolOp .And (e2 :: rest) pos) (tNewG dd pl cm i a (.bl y))) : PE X (.BoolOp .And (e :: e2 :: rest) pos) (tNewG dd pl cm i a (.bl (x && y))) :=
  pe_imp (pe_and h1 h2) fun σ H Q q => ⟨q.1, q.2.1, fun v H' f sm r nd fr => by
    obtain ⟨rfl, rfl⟩ := r.bl_of
    refine ⟨x, rfl, ?_⟩
    cases x with
    | false =>
      rw [if_neg Bool.false_ne_true]
      exact q.2.2 _ H' [] sm (RpL.at rfl) List.nodup_nil (fun x hx => by cases hx)
    | true =>
      rw [if_pos rfl]
      refine ⟨q.1.same sm, q.2.1, fun v2 H2 f2 sm2 r2 nd2 fr2 => ?_⟩
      obtain ⟨rfl, rfl⟩ := r2.bl_of
      exact q.2.2 _ H2 [] (sm.trans sm2) (RpL.at rfl) List.nodup_nil (fun x hx => by cases hx)⟩
theorem pe_notG (h1 : PE X e (tNewG dd pl cm i a (.bl x))) : PE X (.UnaryOp .Not e pos) (tNewG dd pl cm i a (.bl (!x))) :=
  pe_imp (pe_not h1) fun σ H Q q => ⟨q.1, q.2.1, fun v H' f sm r nd fr => by
    obtain ⟨rfl, rfl⟩ := r.bl_of
    exact ⟨x, rfl, q.2.2 _ H' [] sm (RpL.at rfl) List.nodup_nil (fun x hx => by cases hx)⟩⟩
end
/-! ### the clauses -/
abbrev Res := Nat → D → Option D
def pickH (D : Str) : List (Str × Res) → Option Res
  | [] => none
  | p :: r => if xIs D p.1 = true then some p.2 else pickH D r
def wTryM (cm : CM) (Ds : List Str) (hs : List (Str × Res)) (i j : Nat) (Wout : WX) (En : Ends) : WX := fun cls d σ H => ∃ n pl, n < Ds.length ∧ cls = .ref (cm.c n) ∧ ExD cm H d pl ∧ match pickH (Ds.getD n "") hs with
  | some res => i < σ.length ∧ ∃ dv, res n pl = some dv ∧ ∀ a v H' f, Same H H' → RpL cm H' [v] [dv] f → f.Nodup → (∀ x ∈ f, H x = none ∧ WrA H' x) → En.nx (((σ.set i (some (.ref a))).set j (some v)).set i none) H'
  | none => Wout cls d σ H
def tsH (X : Cx) (cm : CM) (Ds : List Str) (i j : Nat) (p : Str × Res) : Suite := fun a cls d En σ H => ∃ n pl dv, n < Ds.length ∧ cls = .ref (clsA X.K (Ds.getD n "")) ∧ xIs (Ds.getD n "") p.1 = true ∧ p.2 n pl = some dv ∧ tAsg (tNewG d pl cm i a dv) (gName j) En σ H
def clsH (X : Cx) (cm : CM) (Ds : List Str) (i j : Nat) (p : Str × Res) : Value × Suite := (.ref (clsA X.K p.1), tsH X cm Ds i j p)
section
variable {X : Cx} {cm : CM} {Ds Cs : List Str} {i j : Nat} {x m C : Str} {res : Res} {hs : List (Str × Res)} {hds : List ExceptHandler} {e : Expr} {np pm pa pos' : Pos}
theorem hd_nil : HdAs X x [] (([] : List (Str × Res)).map (clsH X cm Ds i j)) := .nil
theorem hd_cons (F : XF X.K X.mg Ds Cs) (hC : C ∈ Cs) (hne : C ≠ vErr) (hg : Gl X C) (nd : X.N.Nodup) (hj : X.N[j]? = some m) (hjl : Loc X.env.scope m) (hjf : X.fn m = true ∨ X.env.scope.names.lookup m = some .local)
    (hsu : ∀ (a : Addr) (oe : Obj) (pn : List (Addr × Obj)) (n : Nat) (d : Option Addr) (pl dv : D), n < Ds.length → xIs (Ds.getD n "") C = true → res n pl = some dv → L2N.Zn (.ref (clsA X.K (Ds.getD n ""))) d oe → (∃ vs, oe.data = .fields vs) → PE (X.suite a ((a, oe) :: pn)) e (tNewG d pl cm i a dv))
    (rest : HdAs X x hds (hs.map (clsH X cm Ds i j))) (hsw : ∀ (a : Addr) (oe : Obj) (pn : List (Addr × Obj)), swapsWith e (some (.Name m pm)) pa.line (X.suite a ((a, oe) :: pn)).env = pure false := by intro _ _ _; rfl) (hdb : (C == ("__debug__" : Str)) = false := by decide) :
    HdAs X x (.ExceptHandler (some (.Name C np)) (some x) [.Assign [.Name m pm] e pa] pos' :: hds) (((C, res) :: hs).map (clsH X cm Ds i j)) :=
  .cons ⟨hg, hdb, .inl (F.gC C hC hne)⟩ (fun a oe cls d pn hz hfl => ⟨fun pins s σ H D' I q => by
    obtain ⟨n, pl, dv, hn, rfl, hi, hr, q⟩ := q
    exact (pss_one (ps_set (X := X.suite a ((a, oe) :: pn)) (i := j) nd hj hjl (hsu a oe pn n d pl dv hn hi hr hz hfl) (hsw a oe pn) hjf)).run pins s σ H D' I q⟩) rest
theorem wAll_of (hcm : ∀ n, cm.c n = clsA X.K (Ds.getD n "")) (F : XF X.K X.mg Ds Cs) {Wout : WX} {En : Ends} {σ : L2.St} {H : Hp} {n : Nat} {pl : D} {d : Option Addr} (hn : n < Ds.length) (x : ExD cm H d pl) : ∀ hs : List (Str × Res), (∀ p ∈ hs, p.1 ∈ Cs ∧ p.1 ≠ vErr) →
    (match pickH (Ds.getD n "") hs with
      | some res => i < σ.length ∧ ∃ dv, res n pl = some dv ∧ ∀ a v H' f, Same H H' → RpL cm H' [v] [dv] f → f.Nodup → (∀ x ∈ f, H x = none ∧ WrA H' x) → En.nx (((σ.set i (some (.ref a))).set j (some v)).set i none) H'
      | none => Wout (.ref (cm.c n)) d σ H) → wAll X.K i Wout En (hs.map (clsH X cm Ds i j)) (.ref (cm.c n)) d σ H
  | [], _, h => h
  | (C, res) :: hs, hall, h => by
    have hD : Ds.getD n "" ∈ Ds := by
      rw [List.getD_eq_getElem?_getD, List.getElem?_eq_getElem hn]
      exact List.getElem_mem _
    obtain ⟨hC, hne⟩ := hall _ List.mem_cons_self
    refine ⟨xIs (Ds.getD n "") C, by rw [hcm n]; exact F.exm hD hC hne, fun z a ha => ?_, fun z => ?_⟩
    · have e : pickH (Ds.getD n "") ((C, res) :: hs) = some res := if_pos z
      rw [e] at h
      obtain ⟨lt, dv, hr, q⟩ := h
      exact ⟨n, pl, dv, hn, by rw [hcm n], z, hr, x, List.getElem?_set_self lt, fun v H2 f sm r nd fr => q a v H2 f sm r nd fr⟩
    · have e : pickH (Ds.getD n "") ((C, res) :: hs) = pickH (Ds.getD n "") hs := if_neg (by show ¬ xIs (Ds.getD n "") C = true; rw [z]; exact Bool.false_ne_true)
      rw [e] at h
      exact wAll_of hcm F hn x hs (fun p hp => hall p (List.mem_cons_of_mem _ hp)) h
theorem ps_tryM {Wout : WX} {body : List Stmt} {tb : WX → TS} {h₀ : ExceptHandler} {pos : Pos} (hcm : ∀ n, cm.c n = clsA X.K (Ds.getD n "")) (F : XF X.K X.mg Ds Cs) (hall : ∀ p ∈ hs, p.1 ∈ Cs ∧ p.1 ≠ vErr)
    (stk : X.stack = X.env :: X.outer) (frm : X.env.frame = some X.env.locals) (nd : X.N.Nodup) (at_i : X.N[i]? = some x) (isl : X.env.kindOf x = some .local) (tk : L2N.Takes X Wout)
    (hb : ∀ (W : WX) (pn : List (Addr × Obj)) (xe : Value → Shared → Prop), L2N.Takes (X.tr pn xe) W → PassesOwn (model X.prog X.w) X.A X.env xe → PSs (X.tr pn xe) body (tb W))
    (clauses : HdAs X x (h₀ :: hds) (hs.map (clsH X cm Ds i j))) : PS X (.Try body (h₀ :: hds) [] [] pos) (fun D σ H => tb (wTryM cm Ds hs i j Wout D) D σ H) := by
  refine ⟨fun pins s σ H En I h => ?_⟩
  let V : WX := wTryM cm Ds hs i j Wout En
  have key := ps_tryAll (tb := fun W D' σ H => (∀ cls d σ' H', V cls d σ' H' → W cls d σ' H') ∧ tb V D' σ H) (pos := pos) stk frm nd at_i isl tk (fun W pn xe tkW ps => ⟨fun pins s σ H D' I q => (hb V pn xe (tkW.imp q.1) ps).run pins s σ H D' I q.2⟩) clauses
  refine key.run pins s σ H En I ⟨fun cls d σ' H' v => ?_, h⟩
  obtain ⟨n, pl, hn, rfl, ex, v⟩ := v
  exact wAll_of hcm F hn ex hs hall v
end
def bTryM (Ds : List Str) (hs : List (Str × Res)) (i j : Nat) (o : Option Out) : Option Out := match o with
  | some (.ex n pl env') => if n < Ds.length then match pickH (Ds.getD n "") hs with
      | some res => match res n pl with
        | some dv => some (.nx (((env'.set i none).set j (some dv)).set i none))
        | none => none
      | none => some (.ex n pl env')
    else none
  | o => o
def XS.trym (Ds : List Str) (hs : List (Str × Res)) (body : XS) (i j : Nat) : XS where
  t p := fun En σ H => body.t ⟨wTryM p.cm Ds hs i j p.W En, p.cm⟩ En σ H
  f env := bTryM Ds hs i j (body.f env)
  mo c ms := match body.mo { c with mx := ms } ms with
    | none => none
    | some k => if wk ms c.mx && decide (i < ms.length) && decide (j < ms.length) && decide (i ≠ j) && wkO k (mergeM k (some ((ms.set i .dead).set j .own))) && wkO (some ((ms.set i .dead).set j .own)) (mergeM k (some ((ms.set i .dead).set j .own))) then some (mergeM k (some ((ms.set i .dead).set j .own))) else none
  ok p c ms k hm Z H σ env OW En E hP := by
    split at hm
    · cases hm
    next k1 h1 =>
    split at hm
    case isFalse => cases hm
    next hc2 =>
    cases hm
    simp only [Bool.and_eq_true, decide_eq_true_eq] at hc2
    obtain ⟨⟨⟨⟨⟨hx, hil⟩, hjl⟩, hij⟩, w1⟩, w2⟩ := hc2
    refine body.ok ⟨wTryM p.cm Ds hs i j p.W En, p.cm⟩ { c with mx := ms } ms k1 h1 Z H σ env OW En E ?_
    cases q : body.f env with
    | none => rw [q] at hP; exact hP
    | some o =>
      rw [q] at hP
      cases o with
      | nx env1 => exact PoS.more (p := p) (c := c) hP w1
      | rt d => exact hP
      | bk env1 => exact hP
      | ct env1 => exact hP
      | ex n pl env1 =>
        intro dd σ' H' Z' OW' fr st E' x
        have hP : PoS p c (mergeM k1 (some ((ms.set i .dead).set j .own))) Z H OW (if n < Ds.length then match pickH (Ds.getD n "") hs with
            | some res => match res n pl with
              | some dv => some (.nx (((env1.set i none).set j (some dv)).set i none))
              | none => none
            | none => some (.ex n pl env1)
          else none) En := hP
        split at hP
        case isFalse => exact hP.elim
        next hn =>
        refine ⟨n, pl, hn, rfl, x, ?_⟩
        cases qp : pickH (Ds.getD n "") hs with
        | none =>
          rw [qp] at hP
          obtain ⟨Z3, OW3, E3, s3⟩ := E'.weak hx
          exact hP dd σ' H' Z3 OW3 fr (st.trans s3) E3 x
        | some res =>
          rw [qp] at hP
          have hP : PoS p c (mergeM k1 (some ((ms.set i .dead).set j .own))) Z H OW (match res n pl with
              | some dv => some (.nx (((env1.set i none).set j (some dv)).set i none))
              | none => none) En := hP
          cases qr : res n pl with
          | none => rw [qr] at hP; exact hP.elim
          | some dv =>
            rw [qr] at hP
            have hP := PoS.more hP w2
            obtain ⟨l1, l2⟩ := E'.sl.lens
            refine ⟨by have l1 : ms.length = σ'.length := l1; omega, dv, qr, fun a v H2 f sm r nd fr2 => ?_⟩
            have E2 := E'.same sm
            obtain ⟨o1, s1, b1, c1⟩ := E2.sl.kill i (some (.ref a)) none
            have E3 : ER p.cm (ms.set i .dead) Z' H2 (σ'.set i (some (.ref a))) (env1.set i none) o1 := ⟨s1, c1 E2.nd, fun x hx => E2.wr x (b1 x hx), fun x hx => E2.dis x (b1 x hx), E2.tr, E2.sub⟩
            have nz : ∀ x ∈ f, ¬ Z'.n x := fun x hx z => E'.tr x z (fr2 x hx).1
            have no1 : ∀ x ∈ f, x ∉ o1 := fun x hx z => by
              obtain ⟨u, e, _⟩ := E'.wr x (b1 x z)
              rw [(fr2 x hx).1] at e; cases e
            obtain ⟨o2, E4, b2⟩ := E3.put (i := j) (k := .own) (m := .own) (by rw [List.length_set]; exact hjl) r ⟨nd, fun x hx => ⟨no1 x hx, nz x hx, (fr2 x hx).2⟩⟩ rfl
            obtain ⟨o3, s3, b3, c3⟩ := E4.sl.kill i none none
            have hmd : ((ms.set i .dead).set j .own).set i .dead = (ms.set i .dead).set j .own := by
              rw [List.set_comm _ _ (Ne.symm hij), List.set_set]
            rw [hmd] at s3
            have E5 : ER p.cm ((ms.set i .dead).set j .own) Z' H2 (((σ'.set i (some (.ref a))).set j (some v)).set i none) (((env1.set i none).set j (some dv)).set i none) o3 := ⟨s3, c3 E4.nd, fun x hx => E4.wr x (b3 x hx), fun x hx => E4.dis x (b3 x hx), E4.tr, E4.sub⟩
            refine hP _ rfl _ H2 Z' o3 (fr.trans st (Same.fr sm)) ?_ E5
            have s2 := st.trans (Stp.same sm)
            refine ⟨fun x hx => ?_, s2.n1, s2.s1, s2.n2, s2.s2, s2.gro⟩
            rcases b2 x (b3 x hx) with w | ⟨_, w⟩
            · exact s2.ow x (b1 x w)
            · exact .inr (hn_of st.gro (fr2 x w).1)
end DL
set_option maxRecDepth 100000
namespace DL
open PySem PySem.Spec PyProof.Rows L2
/-- what a suite makes of the field f -/
def fldR (f : Str) (g : D → D) : D → Option D
  | .ins 0 [(f', dv)] => if f' = f ∧ immD dv = true then some (g dv) else none
  | _ => none
theorem fldR_of {f : Str} {g : D → D} {pl dv : D} (h : fldR f g pl = some dv) : ∃ d, pl = .ins 0 [(f, d)] ∧ immD d = true ∧ dv = g d := by
  unfold fldR at h
  split at h
  · split at h
    · next h2 => cases h; exact ⟨_, by rw [h2.1], h2.2, rfl⟩
    · cases h
  · cases h
end DL
set_option maxRecDepth 100000
set_option maxHeartbeats 2000000
namespace DL
open PySem PySem.Spec PyProof.Rows L2
/-! ### defs that are handed the caught exception, which may have a dict: values known -/
structure SKn (dd : Option Addr) (pl : D) (cm : CM) (i : Nat) (a : Addr) (js : Option (Nat × D)) (σ : L2.St) (H : Hp) : Prop where
  ex : ExD cm H dd pl
  at_i : σ[i]? = some (some (.ref a))
  at_j : ∀ p, js = some p → ∃ v, σ[p.1]? = some (some v) ∧ RpL cm H [v] [p.2] []
section
variable {dd : Option Addr} {pl : D} {cm : CM} {i : Nat} {a : Addr} {js : Option (Nat × D)} {σ : L2.St} {H H' : Hp}
theorem SKn.same (S : SKn dd pl cm i a js σ H) (e : Same H H') : SKn dd pl cm i a js σ H' := ⟨S.ex.same e, S.at_i, fun p hp => let ⟨v, x, r⟩ := S.at_j p hp; ⟨v, x, r.same e⟩⟩
end
def tKn (dd : Option Addr) (pl : D) (cm : CM) (i : Nat) (a : Addr) (js : Option (Nat × D)) (d : D) : TE := fun σ H Q => SKn dd pl cm i a js σ H ∧ ∀ v H', Same H H' → RpL cm H' [v] [d] [] → Q v H'
theorem call_isPG {X : Cx} {a C : Addr} {oe : Obj} {dd : Option Addr} (x : ExcC X.K C) (hp : (a, oe) ∈ X.pn) (hz : Zc (.ref C) dd oe) (hf : ∃ vs, oe.data = .fields vs) : CallR X (.builtin "isinstance") (rIsG X.K C a dd) := by
  rintro pins s σ H xs us Q I r ⟨hdd, c, cv, b, rfl, only, kit, q⟩
  obtain ⟨u1, u2, rfl, rx, rc⟩ := vals2 r
  cases rx
  have ec := only _ rc
  subst ec
  obtain ⟨found, _⟩ := I.pin (a, oe) (List.mem_append.mpr (.inl hp))
  obtain ⟨vs, dat⟩ := hf
  obtain ⟨od, J⟩ : ∃ od, PySem.W.InstAt s.heap a oe C od := by
    rcases hdd with rfl | ⟨d, gs, rfl, hd⟩
    · exact ⟨none, found, hz.1, by unfold PySem.W.notCls; rw [dat] <;> rfl, by rw [hz.2]; trivial⟩
    · have hx : ObjOk X.prog X.w H s.heap d (.xd gs) := I.hok d _ hd
      obtain ⟨mA, hns, _⟩ := hx
      obtain ⟨od, ho, _⟩ := lookIn_ns hns
      exact ⟨some od, found, hz.1, by unfold PySem.W.notCls; rw [dat] <;> rfl, by rw [hz.2]; exact ho⟩
  have isc : (PySem.W.clsIn X.K C).isSome = true := by
    obtain ⟨cd, hc, _⟩ := PySem.W.any_some x.hd
    rw [hc]; rfl
  exact PySem.W.kia_one (PySem.W.kitx_exc isc x.hg x.hk x.hs x.ha x.hn x.ht x.hm) I.kIn J kit (fun z => nomatch z) fun tk => ⟨.bl b, H, I.kept (t' := tk) fun _ _ z => z, rfl, q⟩
section
variable {X : Cx} {cm : CM} {a : Addr} {oe : Obj} {i j n : Nat} {x C m : Str} {Ds Cs : List Str} {p px pc pos pos' pa pm : Pos} {dd : Option Addr} {pl : D} {js : Option (Nat × D)} {e e2 : Expr} {es : List Expr} {d : D}
theorem pe_isKn (F : XF X.K X.mg Ds Cs) (hn : n < Ds.length) (hz : L2N.Zn (.ref (clsA X.K (Ds.getD n ""))) dd oe) (hf : ∃ vs, oe.data = .fields vs) (hp : (a, oe) ∈ X.pn)
    (hC : C ∈ Cs) (hce : C ≠ vErr) (hx : PE X (.Name x px) (tVar i)) (hgi : Gl X "isinstance") (hmi : X.mg "isinstance" = none) (hgC : Gl X C) (hdb : (C == ("__debug__" : Str)) = false := by decide) :
    PE X (.Call (.Name "isinstance" p) [.Name x px, .Name C pc] [] pos) (tKn dd pl cm i a js (.bl (xIs (Ds.getD n "") C))) := by
  obtain ⟨_, _, h3, _⟩ := XF.parts (F.raise _ (xD_mem hn))
  have hk := F.kit (xD_mem hn) hC
  unfold xV at hk
  rw [if_neg hce] at hk
  have hcl : PE X (.Name C pc) (tC (.ref (clsA X.K C))) := pe_glob (v := .ref (clsA X.K C)) (u := .ref (clsA X.K C)) hgC (F.gC C hC hce) rfl hdb
  refine pe_imp (pe_callB (call_isPG h3 hp hz.zc hf) hgi hmi boot_isinstance (pa_cons hx (pa_cons hcl pa_nil))) fun σ H Q q => ?_
  exact ⟨.ref a, q.1.at_i, q.1.ex.dict, .ref (clsA X.K C), .ref (clsA X.K C), _, rfl, (fun u hu => hu), hk, q.2 _ H (Same.refl H) (RpL.at rfl)⟩
theorem pe_isKnV (F : XF X.K X.mg Ds Cs) (hn : n < Ds.length) (hz : L2N.Zn (.ref (clsA X.K (Ds.getD n ""))) dd oe) (hf : ∃ vs, oe.data = .fields vs) (hp : (a, oe) ∈ X.pn)
    (hC : vErr ∈ Cs) (hx : PE X (.Name x px) (tVar i)) (hgi : Gl X "isinstance") (hmi : X.mg "isinstance" = none) (hgC : Gl X vErr) (hmV : X.mg vErr = none) :
    PE X (.Call (.Name "isinstance" p) [.Name x px, .Name vErr pc] [] pos) (tKn dd pl cm i a js (.bl (xIs (Ds.getD n "") vErr))) := by
  obtain ⟨_, _, h3, _⟩ := XF.parts (F.raise _ (xD_mem hn))
  have hk := F.kit (xD_mem hn) hC
  unfold xV at hk
  rw [if_pos rfl] at hk
  have hcl : PE X (.Name vErr pc) (tC (.ty "ValueError")) := pe_bltn (v := .ty "ValueError") (u := .type "ValueError") hgC hmV (by rfl) rfl
  refine pe_imp (pe_callB (call_isPG h3 hp hz.zc hf) hgi hmi boot_isinstance (pa_cons hx (pa_cons hcl pa_nil))) fun σ H Q q => ?_
  exact ⟨.ref a, q.1.at_i, q.1.ex.dict, .ty "ValueError", .type "ValueError", _, rfl, (fun u hu => hu), hk, q.2 _ H (Same.refl H) (RpL.at rfl)⟩
theorem pe_atomKn {v : V} (h : PE X e (tC v)) (ha : atomV d = some v) : PE X e (tKn dd pl cm i a js d) := pe_imp h fun σ H Q q => q.2 v H (Same.refl H) (RpL.at ha)
theorem pe_varKn (h : PE X e (tVar j)) : PE X e (tKn dd pl cm i a (some (j, d)) d) := pe_imp h fun σ H Q q => let ⟨v, h1, r⟩ := q.1.at_j _ rfl; ⟨v, h1, q.2 v H (Same.refl H) r⟩
theorem pe_andKn {rest : List Expr} {x y : Bool} (h1 : PE X e (tKn dd pl cm i a js (.bl x))) (h2 : PE X (.BoolOp .And (e2 :: rest) pos) (tKn dd pl cm i a js (.bl y))) : PE X (.BoolOp .And (e :: e2 :: rest) pos) (tKn dd pl cm i a js (.bl (x && y))) :=
  pe_imp (pe_and h1 h2) fun σ H Q q => ⟨q.1, fun v H' sm r => by
    obtain ⟨rfl, _⟩ := r.bl_of
    refine ⟨x, rfl, ?_⟩
    cases x with
    | false =>
      rw [if_neg Bool.false_ne_true]
      exact q.2 _ H' sm (RpL.at rfl)
    | true =>
      rw [if_pos rfl]
      refine ⟨q.1.same sm, fun v2 H2 sm2 r2 => ?_⟩
      obtain ⟨rfl, _⟩ := r2.bl_of
      exact q.2 _ H2 (sm.trans sm2) (RpL.at rfl)⟩
theorem pe_intKn {b : Bool} {pf : Pos} {tt : TA → TE} (h : ∀ {ta : TA}, PA X [e] ta → PE X e2 (tCB (BI.int1.r ⟨fun _ _ _ _ => False, cm⟩) ta)) (he : PE X e (tKn dd pl cm i a js (.bl b))) (hs : starEach [e] X.env = (false, eval e X.env) :: starEach [] X.env := by rfl) : PE X e2 (tKn dd pl cm i a js (.int (if b then 1 else 0))) :=
  pe_imp (h (pa_cons he pa_nil hs)) fun σ H Q q => ⟨q.1, fun v H' sm r => by
    obtain ⟨v2, ev, hr⟩ := BI.int1.ok ⟨fun _ _ _ _ => False, cm⟩ [.bl b] (.int (if b then 1 else 0)) (by cases b <;> rfl)
    exact hr H' [v] [] _ r (q.2 v2 H' sm (RpL.at ev))⟩
theorem pe_addKn {x y : Int} (h1 : PE X e (tKn dd pl cm i a js (.int x))) (h2 : PE X e2 (tKn dd pl cm i a js (.int y))) : PE X (.BinOp e .Add e2 pos) (tKn dd pl cm i a js (.int (x + y))) :=
  pe_imp (pe_op (op_addK X.K) h1 h2) fun σ H Q q => ⟨q.1, fun v H' sm r => by
    obtain ⟨rfl, _⟩ := r.int_of
    refine ⟨q.1.same sm, fun v2 H2 sm2 r2 => ?_⟩
    obtain ⟨rfl, _⟩ := r2.int_of
    exact .inl ⟨x, y, rfl, rfl, q.2 _ H2 (sm.trans sm2) (RpL.at rfl)⟩⟩
theorem pe_eqKn {x y : Int} (hu : X.A.units + 64 < cLine) (h1 : PE X e (tKn dd pl cm i a js (.int x))) (h2 : PE X e2 (tKn dd pl cm i a js (.int y))) (hm : behindInMarks .Eq e2 = false) : PE X (.Compare e [.Eq] [e2] pos) (tKn dd pl cm i a js (.bl (decide (x = y)))) :=
  pe_imp (pe_cmpR (op_eqD hu) h1 h2 hm) fun σ H Q q => ⟨q.1, fun v H' sm r => by
    obtain ⟨rfl, _⟩ := r.int_of
    refine ⟨q.1.same sm, fun v2 H2 sm2 r2 => ?_⟩
    obtain ⟨rfl, _⟩ := r2.int_of
    have e : PyData.eqv (.int x) (.int y) = decide (x = y) := by
      show (x == y) = _
      by_cases h : x = y <;> simp [h]
    refine ⟨.int x, .int y, (RpL.at (cm := ⟨cm.c, X.K⟩) (d := .int x) rfl).dp rfl, (RpL.at (cm := ⟨cm.c, X.K⟩) (d := .int y) rfl).dp rfl, rfl, rfl, ?_⟩
    rw [e]
    exact q.2 _ H2 (sm.trans sm2) (RpL.at rfl)⟩
/-! statements -/
def tKR (dd : Option Addr) (pl : D) (cm : CM) (i : Nat) (a : Addr) (js : Option (Nat × D)) (d : D) : TS := fun En σ H => SKn dd pl cm i a js σ H ∧ ∀ v H', Same H H' → RpL cm H' [v] [d] [] → En.rt v H'
theorem pss_retKn (h : PE X e (tKn dd pl cm i a js d)) : PSs X [.Return (some e) pos] (tKR dd pl cm i a js d) := pss_imp (pss_one (ps_ret h)) fun En σ H q => ⟨q.1, q.2⟩
theorem pss_asgKn {rest : List Stmt} {dj : D} (hij : i ≠ j) (hN : X.N.Nodup) (hj : X.N[j]? = some m) (hjl : Loc X.env.scope m) (he : PE X e (tKn dd pl cm i a js dj)) (hr : PSs X rest (tKR dd pl cm i a (some (j, dj)) d))
    (hs : swapsWith e (some (.Name m pm)) pa.line X.env = pure false := by rfl) (hf : X.fn m = true ∨ X.env.scope.names.lookup m = some .local := by first | exact .inl rfl | exact .inr rfl | assumption) :
    PSs X (.Assign [.Name m pm] e pa :: rest) (tKR dd pl cm i a js d) := by
  refine ⟨fun pins s σ H En I q => (pss_cons (ps_set hN hj hjl he hs hf) hr).run pins s σ H En I ?_⟩
  have hlen : j < σ.length := by
    rw [I.len]
    exact (List.getElem?_eq_some_iff.mp hj).1
  refine ⟨q.1, fun v H' sm r => ⟨⟨q.1.ex.same sm, ?_, fun p hp => ?_⟩, fun v2 H2 sm2 r2 => q.2 v2 H2 (sm.trans sm2) r2⟩⟩
  · rw [List.getElem?_set_ne (Ne.symm hij)]; exact q.1.at_i
  · cases hp
    exact ⟨v, List.getElem?_set_self hlen, r⟩
end
/-! ### what such a def promises -/
def spXG (cm : CM) (Ds : List Str) (res : Nat → D) : Addr × Obj → Sp := fun p vs H Q _ => ∃ n dd pl, n < Ds.length ∧ L2N.Zn (.ref (cm.c n)) dd p.2 ∧ (∃ vs, p.2.data = .fields vs) ∧ ExD cm H dd pl ∧ vs = [.ref p.1] ∧
  ∀ v H', Same H H' → RpL cm H' [v] [res n] [] → Q v H'
theorem fn_okPG {P : Program} {w : World} {K : PySem.W.Frag} {mg : Str → Option Value} {base : Heap} {CX : CXT} {cm : CM} {x qual y : Str} {st : Stmt} {f : Addr} {fd : FuncData} {N : List Str} {k : Nat} {Ds : List Str} {res : Nat → D} (F : Fun K x qual st f fd) (S : FnScope N [y] (defScope st)) (hcm : ∀ n, cm.c n = clsA K (Ds.getD n ""))
    (hb : ∀ (cdv : Value) (A : Around) (outer : List Env) (s : Shared) (H : Hp) (E : XK) (p : Addr × Obj) (n : Nat) (dd : Option Addr) (pl : D), n < Ds.length → L2N.Zn (.ref (clsA K (Ds.getD n ""))) dd p.2 → (∃ vs, p.2.data = .fields vs) → (L2H.cxH CX P w K mg base N qual (defScope st) f cdv A outer s H E p).A.units + 64 < cLine →
      PSs (L2H.cxH CX P w K mg base N qual (defScope st) f cdv A outer s H E p) (defBody st) (tKR dd pl cm 0 p.1 none (res n))) :
    FnP P w K mg base CX (k + 1) f fd [y] (spXG cm Ds res) := by
  obtain ⟨oc, od, kV, doc, pm, an, cdv, ct, osl, rfl, lk, hcd⟩ := F.ex
  refine ⟨fun p vs H Q E h => by obtain ⟨n, _, _, _, _, _, _, rfl, _⟩ := h; rfl, fun A outer s H args us vs Q E p hr hot hpin e0 hbd r hsp => ?_⟩
  obtain ⟨n, dd, pl, hn, hz, hf, hx, rfl, hq⟩ := hsp
  have KX : K.In s.heap := e0.mod.kin.keeps fun b o e => (e0.bs b o e).1
  have lim : s.heap.NoLimit := e0.mod.nolimit.keeps fun b o e => (e0.bs b o e).1
  have hkind : ∀ z ∈ ([y] : List Str).zip us, (defScope st).names.lookup z.1 = some .local ∨ ((defScope st).names.lookup z.1 = some .cell ∧ ((cellsFrom (s.heap.objs.size + 1) (defScope st).names []).lookup z.1).isSome = true) := fun ⟨n, v⟩ hy => by
    rcases S.par n (List.of_mem_zip hy).1 with q | q
    · exact .inl q
    · exact .inr ⟨q, PySem.W.cellsFrom_some _ _ _ (.inl q)⟩
  refine codeAny_call_function hr.depth (KX _ _ lk) rfl S.co S.gen rfl (PySem.W.codeRec_of KX hcd) (hbd _ _ _ _ ?_)
  refine wpAny_newFunctionEnv_cells S.kind hkind fun env he s1 xx => ?_
  subst he
  refine ⟨lim.keeps xx.toInCall.keep, codeAny_func ?_⟩
  rw [hcm n] at hz
  have ht := hb cdv A outer s H E p n dd pl hn hz hf (by have := hr.un; show A.units + 3 + 64 < cLine; omega)
  have I : Inv (L2H.cxH CX P w K mg base N qual (defScope st) f cdv A outer s H E p) [] (L2.start N [.ref p.1]) H s1 := L2H.inv_startH S hpin e0 rfl r xx
  refine wpAny_mono (ht.run [] s1 (L2.start N [.ref p.1]) H { nx := fun _ H' => Q .non H', rt := Q } I ⟨⟨hx, rfl, fun _ z => by cases z⟩, hq⟩) (fun fl s' hs => ?_) fun e s' hs => hs
  have fin : ∀ {σ' : L2.St} {H' : Hp} {v : V} {u : Value}, Inv (L2H.cxH CX P w K mg base N qual (defScope st) f cdv A outer s H E p) [] σ' H' s' → RelV v u → Q v H' → CE outer P w H s Q u s' :=
    fun {σ' H' v u} J rv q => ⟨v, H', J.os, J.bare, J.base, J.hok, rv, q⟩
  cases fl with
  | ret u =>
    obtain ⟨v, σ', H', J, rv, q⟩ := hs
    exact fin J rv q
  | next =>
    obtain ⟨σ', H', J, q⟩ := hs
    exact fin (v := V.non) (u := Value.none) J rfl q
  | brk =>
    obtain ⟨_, _, _, q⟩ := hs
    exact False.elim q
  | cont =>
    obtain ⟨_, _, _, q⟩ := hs
    exact False.elim q
/-- f(e) in the suite -/
theorem pe_callPG {X : Cx} {cm : CM} {a : Addr} {oe : Obj} {pn : List (Addr × Obj)} {i n k : Nat} {x y y' : Str} {f : Addr} {fd : FuncData} {q px pos : Pos} {Ds : List Str} {res : Nat → D} {dd : Option Addr} {pl : D} (F : FnP X.prog X.w X.K X.mg X.base (L2N.CX X.prog X.w) k f fd [y] (spXG cm Ds res)) (hcm : ∀ n, cm.c n = clsA X.K (Ds.getD n "")) (hr : Room k X.A)
    (hn : n < Ds.length) (hz : L2N.Zn (.ref (clsA X.K (Ds.getD n ""))) dd oe) (hf : ∃ vs, oe.data = .fields vs) (hx : PE (X.suite a ((a, oe) :: pn)) (.Name x px) (tVar i)) (hg : Gl X y') (hm : X.mg y' = some (.ref f)) (hk : PySem.W.keepIn X.K (.ref f) = true) (hb : Binds X.K fd [y] []) (hdb : (y' == ("__debug__" : Str)) = false := by decide) :
    PE (X.suite a ((a, oe) :: pn)) (.Call (.Name y' q) [.Name x px] [] pos) (tNewG dd pl cm i a (res n)) := by
  refine ⟨fun pins s σ H Q I h => ?_⟩
  obtain ⟨h0, h1, h2⟩ := h
  have ha : PA (X.suite a ((a, oe) :: pn)) [.Name x px] (tCons (tVar i) tNil) := pa_cons hx pa_nil
  refine wpAny_Call_Name_kw (ld_glob I hg hm ?_ hdb)
  refine PySem.W.callWith_K (h₀ := X.base) I.ok.mod.kin hk (thn (ha.run pos pins s σ H (fun vs H1 => vs = [.ref a] ∧ H = H1) I ⟨.ref a, h1, rfl, rfl⟩) fun us s1 hh => ?_) rfl rfl
  obtain ⟨vs, H1, I1, r, rfl, rfl⟩ := hh
  refine ⟨I1.kIn, ?_⟩
  obtain ⟨fvs, hfd⟩ := hf
  have hot : L2H.Hot1 (X.suite a ((a, oe) :: pn)).A (a, oe) := ⟨rfl, fvs, hfd, hz.2.2 fvs hfd⟩
  have hl : us.length = 1 := by rw [← r.length]; rfl
  have b := hb s1 us I1.kIn (by rw [List.append_nil]; exact hl)
  rw [List.append_nil] at b
  have P1 := I1.pin (a, oe) (List.mem_append_left _ List.mem_cons_self)
  have hpin : L2H.PinOk (X.suite a ((a, oe) :: pn)).stack H s1 (a, oe) := ⟨P1.1, P1.2.1, fun hm => (List.mem_cons.mp (I1.stkSub a hm)).elim P1.2.2.1 P1.2.2.2.1, P1.2.2.2.2⟩
  refine wpAny_call (codeAny_mono (F.run (X.suite a ((a, oe) :: pn)).A (X.suite a ((a, oe) :: pn)).stack s1 H ⟨us, []⟩ us [.ref a] Q (fun _ _ _ => False) (a, oe) ⟨hr.dp, hr.un⟩ hot hpin I1.env0 b r ⟨n, dd, pl, hn, by rw [hcm n]; exact hz, ⟨fvs, hfd⟩, h0, rfl, fun v H' sm rr => h2 v H' [] sm rr List.nodup_nil fun x hx => by cases hx⟩) fun r s' hq => ?_)
  cases r with
  | error e =>
    obtain ⟨_, _, _, _, _, _, _, _, _, _, _, _, z⟩ := hq
    exact z.elim
  | ok fl =>
    cases fl with
    | ret u => exact I1.after hq
    | next => exact False.elim hq
    | brk => exact False.elim hq
    | cont => exact False.elim hq
theorem kg_rse {i n : Nat} {p : Pm} : KeepG i ((XS.rse n).t p) := fun En N N' C C' B B' σ H q _ _ _ => q
end DL
set_option maxRecDepth 100000
namespace DL
open PySem PySem.Spec PyProof.Rows L2
/-! ### what the expressions are worth -/
/-- one statement behind another -/
def seqK (o : Option Out) (g : EnvD → Option Out) : Option Out := match o with
  | some (.nx e) => g e
  | o => o
/-- what a def hands back -/
def finD (o : Option Out) : Option (R D) := match o with
  | some (.rt d) => some (.ok d)
  | some (.nx _) => some (.ok .non)
  | some (.ex c pl _) => some (.ex c pl)
  | _ => none
theorem runD_eq (B : XS) (m : Nat) (ds : List D) : runD B m ds = finD (B.f (ds.map some ++ List.replicate m none)) := rfl
section
variable (g : EnvD → Option Out) (e : EnvD) (d : D) (c : Nat)
@[simp] theorem seqK_nx : seqK (some (.nx e)) g = g e := (rfl)
@[simp] theorem seqK_rt : seqK (some (.rt d)) g = some (.rt d) := (rfl)
@[simp] theorem seqK_bk : seqK (some (.bk e)) g = some (.bk e) := (rfl)
@[simp] theorem seqK_ct : seqK (some (.ct e)) g = some (.ct e) := (rfl)
@[simp] theorem seqK_ex : seqK (some (.ex c d e)) g = some (.ex c d e) := (rfl)
@[simp] theorem seqK_none : seqK none g = none := (rfl)
@[simp] theorem seqK_ite {p : Prop} [Decidable p] (a b : Option Out) : seqK (if p then a else b) g = if p then seqK a g else seqK b g := by split <;> rfl
@[simp] theorem finD_rt : finD (some (.rt d)) = some (.ok d) := (rfl)
@[simp] theorem finD_nx : finD (some (.nx e)) = some (.ok .non) := (rfl)
@[simp] theorem finD_ex : finD (some (.ex c d e)) = some (.ex c d) := (rfl)
@[simp] theorem finD_ite {p : Prop} [Decidable p] (a b : Option Out) : finD (if p then a else b) = if p then finD a else finD b := by split <;> rfl
end
section
variable (i j : Nat) (a b e : XE) (as : XA) (c : XT) (s s' : XS) (env : EnvD) (x : XO) (y : XO) (g : XG) (it : XI) (l : List Nat) (pt : XP) (cs : XC)
@[simp] theorem var_f : (XE.var i).f env = eget env i := (rfl)
@[simp] theorem mv_f : (XE.mv i).f env = eget env i := (rfl)
@[simp] theorem fz_f : (XE.fz i).f env = eget env i := (rfl)
@[simp] theorem k_f {d v h} : (XE.k d v h).f env = some (.ok d) := (rfl)
@[simp] theorem kI_f {n : Int} : (XE.kI n).f env = some (.ok (.int n)) := (rfl)
@[simp] theorem kB_f {n : Bool} : (XE.kB n).f env = some (.ok (.bl n)) := (rfl)
@[simp] theorem kN_f : XE.kN.f env = some (.ok .non) := (rfl)
@[simp] theorem kS_f {n : Str} : (XE.kS n).f env = some (.ok (.str n)) := (rfl)
@[simp] theorem imm_f : (XE.imm a).f env = b1 (a.f env) fun d => if immD d = true then some (.ok d) else none := (rfl)
@[simp] theorem iop_f {o} : (XE.iop o a b).f env = b2 (a.f env) (b.f env) (iopF o.g) := (rfl)
@[simp] theorem neg_f : (XE.neg a).f env = b1 (a.f env) fun d => match d with | .int i => some (.ok (.int (-i))) | _ => none := (rfl)
@[simp] theorem isNo_f {n} : (XE.isNo n a).f env = b1 (a.f env) fun d => some (.ok (.bl (if n then !isN d else isN d))) := (rfl)
@[simp] theorem not_f : (XE.not a).f env = b1 (a.f env) fun d => match d with | .bl b => some (.ok (.bl (!b))) | _ => none := (rfl)
@[simp] theorem and_f : (XE.and a b).f env = bIf true (a.f env) (b.f env) := (rfl)
@[simp] theorem or_f : (XE.or a b).f env = bIf false (a.f env) (b.f env) := (rfl)
@[simp] theorem eq_f {n} : (XE.eq n a b).f env = b2 (a.f env) (b.f env) (eqF n) := (rfl)
@[simp] theorem ix_f : (XE.ix a b).f env = b2 (a.f env) (b.f env) ixF := (rfl)
@[simp] theorem anil_f : XA.nil.f env = some (.ok []) := (rfl)
@[simp] theorem acons_f : (XA.cons a as).f env = bA (a.f env) (as.f env) := (rfl)
@[simp] theorem tup_f : (XE.tup as).f env = bL (as.f env) fun ds => if ds.length ≤ sizeLine then some (.ok (.tup ds)) else none := (rfl)
@[simp] theorem lst_f : (XE.lst as).f env = bL (as.f env) fun ds => if ds.length ≤ sizeLine then some (.ok (.lst ds)) else none := (rfl)
@[simp] theorem bi_f {o} : (XE.bi o as).f env = bL (as.f env) fun ds => (o.g ds).map .ok := (rfl)
@[simp] theorem isi_f {T} : (XE.isi T a).f env = b1 (a.f env) fun d => (isiD T d).map fun b => .ok (.bl b) := (rfl)
@[simp] theorem rep_f : (XE.rep a b).f env = b2 (a.f env) (b.f env) repF := (rfl)
@[simp] theorem add_f {im} : (XE.add im a b).f env = b2 (a.f env) (b.f env) (addF im) := (rfl)
@[simp] theorem sl_f {im} : (XE.sl im a x y).f env = b3 (a.f env) (x.f env) (y.f env) (slF im) := (rfl)
@[simp] theorem ono_f : XO.no.f env = some (.ok none) := (rfl)
@[simp] theorem oe_f : (XO.e a).f env = partF (a.f env) := (rfl)
@[simp] theorem inn_f {n} : (XE.inn n a b).f env = b2 (a.f env) (b.f env) (inAF n) := (rfl)
@[simp] theorem listOf_f {im} : (XE.listOf im as).f env = bL (as.f env) (listOfF im) := (rfl)
@[simp] theorem tupOf_f : (XE.tupOf as).f env = bL (as.f env) tupOfF := (rfl)
@[simp] theorem ife_f : (XE.ife c a b).f env = bT (c.f env) fun x => if x then a.f env else b.f env := (rfl)
@[simp] theorem cnil_f : XC.nil.f env = some (.ok []) := (rfl)
@[simp] theorem ccons_f {w} : (XC.cons w a cs).f env = bA (a.f env) (cs.f env) := (rfl)
@[simp] theorem call_f {f} : (XE.call f cs).f env = bL (cs.f env) f.F := (rfl)
@[simp] theorem lc_f {own} : (XE.lc own it g c e).f env = match it.f env with
    | none => none
    | some (.ex cl pl) => some (.ex cl pl)
    | some (.ok ds) => (compD g.f c.f e.f (wipeE env own) ds []).map fun ds => .ok (.lst ds) := (rfl)
@[simp] theorem tv_f : (XT.v a).f env = onlyB (a.f env) := (rfl)
@[simp] theorem tand_f (d : XT) : (XT.and c d).f env = bT (c.f env) fun x => if x then d.f env else some (.ok (.bl false)) := (rfl)
@[simp] theorem tor_f (d : XT) : (XT.or c d).f env = bT (c.f env) fun x => if x then some (.ok (.bl true)) else d.f env := (rfl)
@[simp] theorem tnot_f : (XT.not c).f env = bT (c.f env) fun x => some (.ok (.bl (!x))) := (rfl)
@[simp] theorem tyes_f : XT.yes.f env = some (.ok (.bl true)) := (rfl)
@[simp] theorem gn_f {d} : (XG.n i).f d env = some (env.set i (some d)) := (rfl)
@[simp] theorem gtwo_f {d1 d2} : (XG.two i j).f (.tup [d1, d2]) env = some ((env.set i (some d1)).set j (some d2)) := (rfl)
@[simp] theorem asg_f : (XS.asg e g).f env = bS (e.f env) env fun d => (g.f d env).map .nx := (rfl)
@[simp] theorem seq_f : (XS.seq s s').f env = seqK (s.f env) s'.f := (rfl)
@[simp] theorem skip_f : XS.skip.f env = some (.nx env) := (rfl)
@[simp] theorem ret_f : (XS.ret e).f env = bS (e.f env) env fun d => some (.rt d) := (rfl)
@[simp] theorem retN_f : XS.retN.f env = some (.rt .non) := (rfl)
@[simp] theorem expr_f : (XS.expr e).f env = bS (e.f env) env fun d => some (.nx env) := (rfl)
@[simp] theorem ite_f : (XS.ite c s s').f env = bB (c.f env) env fun x => if x then s.f env else s'.f env := (rfl)
@[simp] theorem brk_f : XS.brk.f env = some (.bk env) := (rfl)
@[simp] theorem cont_f : XS.cont.f env = some (.ct env) := (rfl)
@[simp] theorem for_f : (XS.for_ it g s l).f env = bSI (it.f env) env fun ds => forD g.f s.f l ds env := (rfl)
@[simp] theorem whl_f {n} : (XS.whl n c s l).f env = whlD c.f s.f l (n env) env := (rfl)
@[simp] theorem iseq_f {im} : (XI.seq im a).f env = bI (a.f env) (seqF im) := (rfl)
@[simp] theorem ir1_f : (XI.r1 as).f env = bLI (as.f env) rg1F := (rfl)
@[simp] theorem ir2_f : (XI.r2 as).f env = bLI (as.f env) rg2F := (rfl)
@[simp] theorem ienum_f {im} : (XI.enum im as).f env = bLI (as.f env) (enumF im) := (rfl)
@[simp] theorem ps_f : (XP.s i).f env = some (.ok []) := (rfl)
@[simp] theorem pix_f : (XP.ix pt b).f env = bP (pt.f env) (b.f env) (ixP env pt.i) := (rfl)
@[simp] theorem ps_i : (XP.s i).i = i := (rfl)
@[simp] theorem pix_i : (XP.ix pt b).i = pt.i := (rfl)
theorem app_f : (XS.app pt e).f env = bPS (pt.f env) env fun path => if isLstD (atP env pt.i path) then bS (e.f env) env fun x => chg env pt.i path (appF x) else none := (rfl)
theorem put_f : (XS.put e pt b).f env = bS (e.f env) env fun x => bPS (pt.f env) env fun path => bS (b.f env) env fun k => chg env pt.i path (setF x k) := (rfl)
@[simp] theorem aug_f {o} : (XS.aug i o e).f env = match eget env i with
    | some (.ok x) => bS (e.f env) env fun y => match iopF o.g x y with
      | some (.ok z) => some (.nx (env.set i (some z)))
      | _ => none
    | _ => none := rfl
end
/-! ### how they go on -/
section
variable (env : EnvD) (d e : D) (r : Option (R D)) (g : D → Option (R D)) (g2 : D → D → Option (R D)) (ds : List D) (gS : D → Option Out) (c : Nat) (p : D)
@[simp] theorem b1_ok : b1 (some (.ok d)) g = g d := (rfl)
@[simp] theorem b2_ok : b2 (some (.ok d)) (some (.ok e)) g2 = g2 d e := (rfl)
@[simp] theorem bA_ok : bA (some (.ok d)) (some (.ok ds)) = some (.ok (d :: ds)) := (rfl)
@[simp] theorem bL_ok {g : List D → Option (R D)} : bL (some (.ok ds)) g = g ds := (rfl)
@[simp] theorem bLI_ok {g : List D → Option (R (List D))} : bLI (some (.ok ds)) g = g ds := (rfl)
@[simp] theorem bI_ok {g : D → Option (R (List D))} : bI (some (.ok d)) g = g d := (rfl)
@[simp] theorem bS_ok : bS (some (.ok d)) env gS = gS d := (rfl)
@[simp] theorem bS_ex : bS (some (.ex c p)) env gS = some (.ex c p env) := (rfl)
@[simp] theorem bSI_ok {g : List D → Option Out} : bSI (some (.ok ds)) env g = g ds := (rfl)
@[simp] theorem bB_ok {b : Bool} {g : Bool → Option Out} : bB (some (.ok (.bl b))) env g = g b := (rfl)
@[simp] theorem bT_ok {b : Bool} {g : Bool → Option (R D)} : bT (some (.ok (.bl b))) g = g b := (rfl)
@[simp] theorem bP_ok {path : List Nat} {g : List Nat → D → Option (R (List Nat))} : bP (some (.ok path)) (some (.ok d)) g = g path d := (rfl)
@[simp] theorem bPS_ok {path : List Nat} {g : List Nat → Option Out} : bPS (some (.ok path)) env g = g path := (rfl)
@[simp] theorem bIf_ok {b c : Bool} : bIf c (some (.ok (.bl b))) r = if b = c then r else some (.ok (.bl b)) := (rfl)
@[simp] theorem onlyB_ok {b : Bool} : onlyB (some (.ok (.bl b))) = some (.ok (.bl b)) := (rfl)
@[simp] theorem partF_ok {i : Int} : partF (some (.ok (.int i))) = some (.ok (some i)) := (rfl)
@[simp] theorem b3_ok {lo hi : Option Int} {g : D → Option Int → Option Int → Option (R D)} : b3 (some (.ok d)) (some (.ok lo)) (some (.ok hi)) g = g d lo hi := (rfl)
@[simp] theorem eget_zero {x : D} : eget (some x :: env) 0 = some (.ok x) := (rfl)
@[simp] theorem eget_succ {x : Option D} {n : Nat} : eget (x :: env) (n + 1) = eget env n := (rfl)
@[simp] theorem iopF_int {g : Int → Int → Option D} {i j : Int} : iopF g (.int i) (.int j) = (g i j).map .ok := (rfl)
@[simp] theorem immD_int {i : Int} : immD (.int i) = true := by rw [immD]
@[simp] theorem immD_bl {i : Bool} : immD (.bl i) = true := by rw [immD]
@[simp] theorem immD_str {i : Str} : immD (.str i) = true := by rw [immD]
@[simp] theorem immD_non : immD .non = true := by rw [immD]
@[simp] theorem immD_tup {xs : List D} : immD (.tup xs) = immL xs := by rw [immD]
@[simp] theorem immD_scr {xs : List D} : immD (.scr xs) = true := by rw [immD]
@[simp] theorem immL_nil : immL [] = true := by rw [immL]
@[simp] theorem immL_cons {x : D} {xs : List D} : immL (x :: xs) = (immD x && immL xs) := by rw [immL]
@[simp] theorem immL_ints (xs : List Int) : immL (xs.map D.int) = true := by induction xs <;> simp_all
@[simp] theorem add_g {i j : Int} : IOp.add.g i j = some (.int (i + j)) := (rfl)
@[simp] theorem sub_g {i j : Int} : IOp.sub.g i j = some (.int (i - j)) := (rfl)
@[simp] theorem lt_g {i j : Int} : IOp.lt.g i j = some (.bl (decide (i < j))) := (rfl)
@[simp] theorem le_g {i j : Int} : IOp.le.g i j = some (.bl (decide (i ≤ j))) := (rfl)
@[simp] theorem gt_g {i j : Int} : IOp.gt.g i j = some (.bl (decide (j < i))) := (rfl)
@[simp] theorem ge_g {i j : Int} : IOp.ge.g i j = some (.bl (decide (j ≤ i))) := (rfl)
theorem mul_g {i j : Int} (h : CMulB i j) : IOp.mul.g i j = some (.int (i * j)) := if_pos h
theorem fdv_g {i j : Int} (h : CDivW i j) : IOp.fdv.g i j = some (.int (i / j)) := if_pos h
theorem mod_g {i j : Int} (h : j ≠ 0) : IOp.mod.g i j = some (.int (i.fmod j)) := if_pos h
theorem pow_g {i j : Int} (h : CPow i j) : IOp.pow.g i j = some (.int (i ^ j.toNat)) := if_pos h
@[simp] theorem addF_int {im} {i j : Int} : addF im (.int i) (.int j) = some (.ok (.int (i + j))) := (rfl)
@[simp] theorem len_g : BI.len.g = lenF := (rfl)
@[simp] theorem lenF_lst {xs : List D} : lenF [.lst xs] = some (.int xs.length) := (rfl)
@[simp] theorem lenF_tup {xs : List D} : lenF [.tup xs] = some (.int xs.length) := (rfl)
@[simp] theorem lenF_scr {xs : List D} : lenF [.scr xs] = some (.int xs.length) := (rfl)
@[simp] theorem isiD_int {T i} : isiD T (.int i) = some (T == .int) := (rfl)
@[simp] theorem isiD_bl {T i} : isiD T (.bl i) = some (T == .int || T == .bool) := (rfl)
@[simp] theorem isiD_lst {T i} : isiD T (.lst i) = some (T == .list) := (rfl)
@[simp] theorem isiD_tup {T i} : isiD T (.tup i) = some (T == .tuple) := (rfl)
@[simp] theorem ixF_scr {xs : List D} {i : Int} : ixF (.scr xs) (.int i) = (atI xs i).map .ok := (rfl)
@[simp] theorem ixF_lst {xs : List D} {i : Int} : ixF (.lst xs) (.int i) = (atI xs i).map .ok := (rfl)
@[simp] theorem ixF_tup {xs : List D} {i : Int} : ixF (.tup xs) (.int i) = (atI xs i).map .ok := (rfl)
@[simp] theorem tupOfF_lst {xs : List D} : tupOfF [.lst xs] = some (.ok (.tup xs)) := (rfl)
@[simp] theorem tupOfF_tup {xs : List D} : tupOfF [.tup xs] = some (.ok (.tup xs)) := (rfl)
end
theorem szl : sizeLine = 16777216 := by decide
/-- the values of an environment -/
theorem fmod_pos {i j : Int} (h : 0 < j) : i.fmod j = i % j := by rw [Int.fmod_eq_emod_of_nonneg i (by omega)]
theorem atI_nat' {α : Type} {xs : List α} {n : Nat} (h : n < xs.length) : atI xs (n : Int) = xs[n]? := by
  unfold atI ixN
  rw [if_pos (Int.natCast_nonneg n), if_pos (by omega)]
  rfl
theorem atI_of {α : Type} {xs : List α} {i : Int} (h0 : 0 ≤ i) (h : i < xs.length) : atI xs i = xs[i.toNat]? := by
  unfold atI ixN
  rw [if_pos h0, if_pos h]
  rfl
/-! ### equality of data by their codes -/
structure EqE {α : Type} [DecidableEq α] (e : α → D) (n : Nat) : Prop where
  ex : ∃ pe : α → PyData, (∀ a, toPy (e a) = some (pe a)) ∧ (∀ a, (pe a).canLay0 = true) ∧ (∀ a, (pe a).depth ≤ n) ∧ ∀ a b, PyData.eqv (pe a) (pe b) = decide (a = b)
theorem EqE.eqF {α : Type} [DecidableEq α] {e : α → D} {n : Nat} (h : EqE e n) (hn : n ≤ 64) (neg : Bool) (a b : α) : eqF neg (e a) (e b) = some (.ok (.bl (if neg then !decide (a = b) else decide (a = b)))) := by
  obtain ⟨pe, h1, h2, h3, h4⟩ := h.ex
  unfold DL.eqF
  rw [h1, h1]
  have sh : ∀ a, SeqAt.shaped (pe a) = true := fun a => by
    unfold SeqAt.shaped
    rw [h2, Bool.true_and]
    exact decide_eq_true (Nat.le_trans (h3 a) hn)
  show (if SeqAt.shaped (pe a) && SeqAt.shaped (pe b) then _ else _) = _
  rw [sh, sh, h4]
  rfl
theorem EqE.int : EqE D.int 0 := ⟨PyData.int, fun _ => rfl, fun _ => rfl, fun _ => Nat.le_refl _, fun a b => by
  show (a == b) = _
  by_cases h : a = b <;> simp [h]⟩
theorem EqE.bl : EqE D.bl 0 := ⟨PyData.bool, fun _ => rfl, fun _ => rfl, fun _ => Nat.le_refl _, fun a b => by
  show (a == b) = _
  cases a <;> cases b <;> rfl⟩
theorem toPyL_map {α : Type} {e : α → D} {pe : α → PyData} (h : ∀ a, toPy (e a) = some (pe a)) : ∀ xs : List α, toPyL (xs.map e) = some (xs.map pe)
  | [] => by rw [List.map_nil, toPyL]; rfl
  | x :: xs => by rw [List.map_cons, toPyL, h, toPyL_map h xs]; rfl
theorem canLayAll_map {α : Type} {pe : α → PyData} (h : ∀ a, (pe a).canLay0 = true) : ∀ xs : List α, PyData.canLayAll0 (xs.map pe) = true
  | [] => rfl
  | x :: xs => by
    show ((pe x).canLay0 && PyData.canLayAll0 (xs.map pe)) = true
    rw [h, canLayAll_map h xs]; rfl
theorem depthAll_map {α : Type} {pe : α → PyData} {n : Nat} (h : ∀ a, (pe a).depth ≤ n) : ∀ xs : List α, PyData.depthAll (xs.map pe) ≤ n
  | [] => Nat.zero_le _
  | x :: xs => by
    show max (pe x).depth (PyData.depthAll (xs.map pe)) ≤ n
    exact Nat.max_le.mpr ⟨h x, depthAll_map h xs⟩
theorem eqvAll_map {α : Type} [DecidableEq α] {pe : α → PyData} (h : ∀ a b, PyData.eqv (pe a) (pe b) = decide (a = b)) : ∀ xs ys : List α, PyData.eqvAll (xs.map pe) (ys.map pe) = decide (xs = ys)
  | [], [] => rfl
  | [], y :: ys => rfl
  | x :: xs, [] => rfl
  | x :: xs, y :: ys => by
    show (PyData.eqv (pe x) (pe y) && PyData.eqvAll (xs.map pe) (ys.map pe)) = _
    rw [h, eqvAll_map h xs ys]
    by_cases h1 : x = y <;> by_cases h2 : xs = ys <;> simp [h1, h2]
theorem EqE.lst {α : Type} [DecidableEq α] {e : α → D} {n : Nat} (h : EqE e n) : EqE (fun xs : List α => D.lst (xs.map e)) (n + 1) := by
  obtain ⟨pe, h1, h2, h3, h4⟩ := h.ex
  refine ⟨fun xs => .list (xs.map pe), fun xs => ?_, fun xs => canLayAll_map h2 xs, fun xs => ?_, fun xs ys => eqvAll_map h4 xs ys⟩
  · show toPy (.lst (xs.map e)) = _
    rw [toPy, toPyL_map h1]; rfl
  · show PyData.depthAll (xs.map pe) + 1 ≤ n + 1
    exact Nat.succ_le_succ (depthAll_map h3 xs)
theorem EqE.tup {α : Type} [DecidableEq α] {e : α → D} {n : Nat} (h : EqE e n) : EqE (fun xs : List α => D.tup (xs.map e)) (n + 1) := by
  obtain ⟨pe, h1, h2, h3, h4⟩ := h.ex
  refine ⟨fun xs => .tuple (xs.map pe), fun xs => ?_, fun xs => canLayAll_map h2 xs, fun xs => ?_, fun xs ys => eqvAll_map h4 xs ys⟩
  · show toPy (.tup (xs.map e)) = _
    rw [toPy, toPyL_map h1]; rfl
  · show PyData.depthAll (xs.map pe) + 1 ≤ n + 1
    exact Nat.succ_le_succ (depthAll_map h3 xs)
@[simp] theorem eqF_int {n} (i j : Int) : eqF n (.int i) (.int j) = some (.ok (.bl (if n then !decide (i = j) else decide (i = j)))) := EqE.int.eqF (by decide) n i j
@[simp] theorem eqF_bl {n} (i j : Bool) : eqF n (.bl i) (.bl j) = some (.ok (.bl (if n then !decide (i = j) else decide (i = j)))) := EqE.bl.eqF (by decide) n i j
/-! ### loops by folds -/
/-- a for whose turns are known -/
theorem forD_fold {α β : Type} {bind : D → EnvD → Option EnvD} {body : EnvD → Option Out} {l : List Nat} (φ : β → EnvD) (ψ : α → D) (step : β → α → β) :
    ∀ (xs : List α) (s : β), (∀ s x, x ∈ xs → ∃ e1, bind (ψ x) (φ s) = some e1 ∧ ∃ e2, (body e1 = some (.nx e2) ∨ body e1 = some (.ct e2)) ∧ killE l e2 = φ (step s x)) → forD bind body l (xs.map ψ) (φ s) = some (.nx (φ (xs.foldl step s)))
  | [], s, _ => rfl
  | x :: xs, s, h => by
    obtain ⟨e1, h1, e2, h2, h3⟩ := h s x List.mem_cons_self
    rw [List.map_cons, forD, h1]
    rcases h2 with h2 | h2
    · simp only [h2, loopK, h3]
      exact forD_fold φ ψ step xs _ fun s y hy => h s y (List.mem_cons_of_mem _ hy)
    · simp only [h2, loopK, h3]
      exact forD_fold φ ψ step xs _ fun s y hy => h s y (List.mem_cons_of_mem _ hy)
/-- a comprehension whose items are known -/
theorem compD_map {α β : Type} {bind : D → EnvD → Option EnvD} {c e : EnvD → Option (R D)} {env : EnvD} (ψ : α → D) (p : α → Bool) (f : α → β) (χ : β → D) :
    ∀ (xs : List α) (acc : List D), acc.length + xs.length ≤ sizeLine → (∀ x, x ∈ xs → ∃ e1, bind (ψ x) env = some e1 ∧ c e1 = some (.ok (.bl (p x))) ∧ (p x = true → e e1 = some (.ok (χ (f x))))) →
      compD bind c e env (xs.map ψ) acc = some (acc ++ ((xs.filter p).map f).map χ)
  | [], acc, _, _ => by simp [compD]
  | x :: xs, acc, hl, h => by
    obtain ⟨e1, h1, h2, h3⟩ := h x List.mem_cons_self
    rw [List.length_cons] at hl
    rw [List.map_cons, compD, h1]
    cases q : p x with
    | true =>
      simp only [h2, q, compB, h3 q, compX]
      rw [if_pos (by omega), compD_map ψ p f χ xs _ (by rw [List.length_append]; simp; omega) fun y hy => h y (List.mem_cons_of_mem _ hy)]
      simp [q]
    | false =>
      simp only [h2, q, compB]
      rw [compD_map ψ p f χ xs _ (by omega) fun y hy => h y (List.mem_cons_of_mem _ hy)]
      simp [q]
theorem compD_all {α β : Type} {bind : D → EnvD → Option EnvD} {e : EnvD → Option (R D)} {env : EnvD} (ψ : α → D) (f : α → β) (χ : β → D) (xs : List α) (hl : xs.length ≤ sizeLine)
    (h : ∀ x, x ∈ xs → ∃ e1, bind (ψ x) env = some e1 ∧ e e1 = some (.ok (χ (f x)))) : compD bind XT.yes.f e env (xs.map ψ) [] = some ((xs.map f).map χ) := by
  rw [compD_map (c := XT.yes.f) (e := e) ψ (fun _ => true) f χ xs [] (by simpa using hl) fun x hx => by
    obtain ⟨e1, h1, h2⟩ := h x hx
    exact ⟨e1, h1, rfl, fun _ => h2⟩]
  rw [List.filter_eq_self.mpr (fun _ _ => rfl)]; rfl
end DL
set_option maxRecDepth 100000
namespace DL
open PySem PySem.Spec PyProof.Rows L2
/-! ### two branches that both go on -/
section
variable {p : Prop} [Decidable p]
@[simp] theorem mrg_nx (a b : EnvD) : (if p then some (Out.nx a) else some (Out.nx b)) = some (.nx (if p then a else b)) := by split <;> rfl
@[simp] theorem mrg_cons (x y : Option D) (xs ys : List (Option D)) : (if p then x :: xs else y :: ys) = (if p then x else y) :: (if p then xs else ys) := by split <;> rfl
@[simp] theorem mrg_some (x y : D) : (if p then some x else some y) = some (if p then x else y) := by split <;> rfl
@[simp] theorem mrg_int (x y : Int) : (if p then D.int x else D.int y) = D.int (if p then x else y) := by split <;> rfl
@[simp] theorem mrg_bl (x y : Bool) : (if p then D.bl x else D.bl y) = D.bl (if p then x else y) := by split <;> rfl
@[simp] theorem mrg_lst (x y : List D) : (if p then D.lst x else D.lst y) = D.lst (if p then x else y) := by split <;> rfl
end
theorem log2_lt {n a : Nat} (h : n < 2 ^ a) (ha : 0 < a) : n.log2 < a := by
  by_cases h0 : n = 0
  · subst h0; simpa using ha
  · exact (Nat.log2_lt h0).mpr h
theorem cmul_of (a b : Nat) {i j : Int} (hi : i.natAbs < 2 ^ a) (hj : j.natAbs < 2 ^ b) (ha : 0 < a := by decide) (hb : 0 < b := by decide) (h : a + b ≤ 134217000 := by decide) : CMulB i j := by
  have h1 := log2_lt hi ha
  have h2 := log2_lt hj hb
  show i.natAbs.log2 + j.natAbs.log2 < 134217000
  omega
theorem cdiv_of (b : Nat) {i j : Int} (h0 : 0 < j) (hj : j.natAbs < 2 ^ b) (hb : 0 < b := by decide) (h : b ≤ 9000 := by decide) : CDivW i j := ⟨h0, by have := log2_lt hj hb; omega⟩
theorem cpow_of {i j : Int} (h : (decide (0 ≤ j) && decide (j ≤ 1000000) && decide (i.natAbs < 2 ^ 64)) = true) : CPow i j := by
  simp at h
  exact ⟨h.1.1, h.1.2, h.2⟩
theorem inB_mk {i : Int} (h : -4611686018427387904 < i) (h' : i < 4611686018427387904) : inB i = true := by
  unfold inB
  exact Nat.blt_eq.mpr (by omega)
theorem rg1F_of {j : Int} (h : inB j = true) : rg1F [.int j] = some (.ok (rgD 0 j.toNat)) := by
  show (if inB j then _ else _) = _
  rw [h]; rfl
theorem rg2F_of {i j : Int} (h : inB i = true) (h' : inB j = true) : rg2F [.int i, .int j] = some (.ok (rgD i (j - i).toNat)) := by
  show (if inB i && inB j then _ else _) = _
  rw [h, h']; rfl
/-- a loop that hands back the first item found -/
theorem forD_find {α : Type} {bind : D → EnvD → Option EnvD} {body : EnvD → Option Out} {l : List Nat} {env : EnvD} (ψ : α → D) (p : α → Bool) (χ : α → D) :
    ∀ xs : List α, (∀ x ∈ xs, ∃ e1, bind (ψ x) env = some e1 ∧ (p x = true → body e1 = some (.rt (χ x))) ∧ (p x = false → ∃ e2, body e1 = some (.nx e2) ∧ killE l e2 = env)) →
      forD bind body l (xs.map ψ) env = match xs.find? p with
        | some x => some (.rt (χ x))
        | none => some (.nx env)
  | [], _ => rfl
  | x :: xs, h => by
    obtain ⟨e1, h1, h2, h3⟩ := h x List.mem_cons_self
    rw [List.map_cons, forD, h1]
    cases q : p x with
    | true =>
      simp only [h2 q, loopK]
      rw [List.find?_cons_of_pos q]
    | false =>
      obtain ⟨e2, h4, h5⟩ := h3 q
      simp only [h4, loopK, h5]
      rw [List.find?_cons_of_neg (by simp [q])]
      exact forD_find ψ p χ xs fun y hy => h y (List.mem_cons_of_mem _ hy)
theorem atI_map {α β : Type} {f : α → β} {xs : List α} {i : Int} : atI (xs.map f) i = (atI xs i).map f := by
  unfold atI
  rw [List.length_map]
  cases ixN xs.length i with
  | none => rfl
  | some j => show (xs.map f)[j]? = (xs[j]?).map f; rw [List.getElem?_map]
theorem atI_in {α : Type} [Inhabited α] {xs : List α} {i : Int} (h0 : 0 ≤ i) (h : i < xs.length) : atI xs i = some (xs[i.toNat]'(by omega)) := by
  rw [atI_of h0 h, List.getElem?_eq_getElem]
end DL
set_option maxRecDepth 100000
namespace DL
open PySem PySem.Spec PyProof.Rows L2
section
variable (env : EnvD) (a b c : XE) (as : XA) (o o' : IOp) (two n : Bool) (pt : XP)
@[simp] theorem dnw_f : XE.dnw.f env = some (.ok (.dct [])) := (rfl)
@[simp] theorem dget2_f : (XE.dget2 a b c).f env = bDct (a.f env) fun kvs => b2 (b.f env) (c.f env) (dgetF kvs) := (rfl)
@[simp] theorem dget1_f : (XE.dget1 a b).f env = bDct (a.f env) fun kvs => b1 (b.f env) fun y => dgetF kvs y .non := (rfl)
@[simp] theorem dix_f : (XE.dix a b).f env = b2 (a.f env) (b.f env) dixF := (rfl)
@[simp] theorem din_f : (XE.din n b a).f env = b2 (b.f env) (a.f env) (dinF n) := (rfl)
@[simp] theorem dictOf_f : (XE.dictOf as).f env = bL (as.f env) dictF := (rfl)
@[simp] theorem lr_f : (XE.lr a).f env = b1 (a.f env) lrF := (rfl)
@[simp] theorem ch_f : (XE.ch o o' a b c).f env = b2 (a.f env) (b.f env) fun x y => match iopF o.g x y with
    | some (.ok (.bl true)) => b1 (c.f env) fun z => iopF o'.g y z
    | some (.ok (.bl false)) => some (.ok (.bl false))
    | _ => none := (rfl)
@[simp] theorem index_f : (XE.index a b).f env = b1 (a.f env) fun x => if isLst1 x then b1 (b.f env) fun y => idxF x y else none := (rfl)
@[simp] theorem disp_f : (XE.disp two as).f env = bL (as.f env) fun ds => (dispF ds).map fun kvs => .ok (.dct kvs) := (rfl)
theorem dput_f : (XS.dput a pt b).f env = bS (a.f env) env fun x => bPS (pt.f env) env fun path => bS (b.f env) env fun k => chg env pt.i path (putF x k) := (rfl)
@[simp] theorem ir3_f : (XI.r3 as).f env = bLI (as.f env) rg3F := (rfl)
@[simp] theorem izip_f : (XI.zip n as).f env = bLI (as.f env) (zipF n) := (rfl)
@[simp] theorem gtup_f {l : List Nat} {ds : List D} : (XG.tup l).f (.tup ds) env = if ds.length = l.length then some (setsE env l ds) else none := (rfl)
@[simp] theorem lenD_g : BI.lenD.g = lenDF := (rfl)
@[simp] theorem lenDF_dct {kvs : List (Key × D)} : lenDF [.dct kvs] = some (.int kvs.length) := (rfl)
end
@[simp] theorem isiD_non {T} : isiD T .non = some false := (rfl)
@[simp] theorem isiD_str {T i} : isiD T (.str i) = some (T == .str) := (rfl)
@[simp] theorem isiD_dct {T i} : isiD T (.dct i) = some (T == .dict) := (rfl)
end DL
set_option maxRecDepth 100000
namespace DL
open PySem PySem.Spec PyProof.Rows L2
section
variable (i : Nat) (g : XG) (s : XS) (l : List Nat) (env : EnvD) (items im : Bool) (own : List Nat) (c : XT) (e : XE)
@[simp] theorem forown_f : (XS.forown i g s l).f env = match eget env i with
    | some (.ok (.lst ds)) => forD g.f s.f l ds env
    | _ => none := (rfl)
@[simp] theorem fordct_f : (XS.fordct i items im g s l).f env = match eget env i with
    | some (.ok (.dct kvs)) => if !im || immL (kvs.map (·.2)) then noEx (forD g.f s.f l (dsD items kvs) env) else none
    | _ => none := (rfl)
@[simp] theorem lcd_f : (XE.lcd own i items im g c e).f env = match eget env i with
    | some (.ok (.dct kvs)) => if !im || immL (kvs.map (·.2)) then (compD g.f c.f e.f (wipeE env own) (dsD items kvs) []).map fun ds => .ok (.lst ds) else none
    | _ => none := (rfl)
end
@[simp] theorem app_s (i : Nat) (e : XE) (env : EnvD) : (XS.app (.s i) e).f env = match eget env i with
    | some (.ok (.lst ds)) => bS (e.f env) env fun x => if ds.length < sizeLine then some (.nx (env.set i (some (.lst (ds ++ [x]))))) else none
    | _ => none := by
  show (bPS (some (.ok [])) env fun path => if isLstD (atP env i path) then bS (e.f env) env fun x => chg env i path (appF x) else none) = _
  show (if isLstD (atP env i []) then bS (e.f env) env fun x => chg env i [] (appF x) else none) = _
  unfold atP chg
  cases h : eget env i with
  | none => rfl
  | some r =>
    cases r with
    | ex _ _ => rfl
    | ok d =>
      cases d with
      | lst ds =>
        simp only [getP, isLstD, if_true, Option.bind_some, setP]
        congr 1
        funext x
        unfold appF
        simp only
        split <;> rfl
      | _ => simp [getP, isLstD]
theorem chg_s (env : EnvD) (i : Nat) (g : D → Option D) : chg env i [] g = match eget env i with
    | some (.ok d) => (g d).map fun d'' => .nx (env.set i (some d''))
    | _ => none := by
  unfold chg
  cases h : eget env i with
  | none => rfl
  | some r =>
    cases r with
    | ex _ _ => rfl
    | ok d => simp only [getP, Option.bind_some, setP]
@[simp] theorem put_s (i : Nat) (e b : XE) (env : EnvD) : (XS.put e (.s i) b).f env = bS (e.f env) env fun x => bS (b.f env) env fun k => match eget env i with
    | some (.ok d) => (setF x k d).map fun d'' => .nx (env.set i (some d''))
    | _ => none := by
  show (bS (e.f env) env fun x => bS (b.f env) env fun k => chg env i [] (setF x k)) = _
  congr 1
@[simp] theorem dput_s (i : Nat) (e b : XE) (env : EnvD) : (XS.dput e (.s i) b).f env = bS (e.f env) env fun x => bS (b.f env) env fun k => match eget env i with
    | some (.ok d) => (putF x k d).map fun d'' => .nx (env.set i (some d''))
    | _ => none := by
  show (bS (e.f env) env fun x => bS (b.f env) env fun k => chg env i [] (putF x k)) = _
  congr 1
/-- a for whose turns each append one item -/
theorem forD_push {α : Type} {bind : D → EnvD → Option EnvD} {body : EnvD → Option Out} {l : List Nat} (φ : List D → EnvD) (ψ : α → D) (f : α → D) :
    ∀ (xs : List α) (acc : List D), (∀ acc x, x ∈ xs → acc.length < sizeLine → ∃ e1, bind (ψ x) (φ acc) = some e1 ∧ ∃ e2, (body e1 = some (.nx e2) ∨ body e1 = some (.ct e2)) ∧ killE l e2 = φ (acc ++ [f x])) → acc.length + xs.length ≤ sizeLine →
      forD bind body l (xs.map ψ) (φ acc) = some (.nx (φ (acc ++ xs.map f)))
  | [], acc, _, _ => by rw [List.map_nil, List.map_nil, List.append_nil]; rfl
  | x :: xs, acc, h, hl => by
    rw [List.length_cons] at hl
    obtain ⟨e1, h1, e2, h2, h3⟩ := h acc x List.mem_cons_self (by omega)
    have ih := forD_push (bind := bind) (body := body) (l := l) φ ψ f xs (acc ++ [f x]) (fun acc y hy => h acc y (List.mem_cons_of_mem _ hy)) (by rw [List.length_append]; simp; omega)
    rw [List.map_cons, forD, h1]
    rcases h2 with h2 | h2 <;> simp only [h2, loopK, h3] <;> rw [ih] <;> simp
/-! ### tables -/
def rowE (r : List Int) : D := .lst (r.map D.int)
def tabE (t : List (List Int)) : D := .lst (t.map rowE)
theorem foldl_push {α β : Type} (f : α → β) : ∀ (xs : List α) (acc : List β), xs.foldl (fun a x => a ++ [f x]) acc = acc ++ xs.map f
  | [], acc => by simp
  | x :: xs, acc => by rw [List.foldl_cons, foldl_push f xs]; simp
theorem natAbs_of_bits {z : Int} {n : Nat} (h : Builtin.Int.intBits z ≤ n) : z.natAbs < 2 ^ n := by
  unfold Builtin.Int.intBits at h
  by_cases h0 : z = 0
  · subst h0; exact Nat.two_pow_pos n
  · rw [if_neg (by simpa using h0)] at h
    exact (Nat.log2_lt (by omega)).mp (by omega)
/-- numbers of few bits -/
def BitsLe (n : Nat) (z : Int) : Prop := z.natAbs < 2 ^ n
theorem BitsLe.mono {n m : Nat} {z : Int} (h : BitsLe n z) (e : n ≤ m) : BitsLe m z := Nat.lt_of_lt_of_le h (Nat.pow_le_pow_right (by decide) e)
theorem BitsLe.add {n m : Nat} {a b : Int} (h : BitsLe n a) (h' : BitsLe m b) : BitsLe (max n m + 1) (a + b) := by
  have h1 := (h.mono (Nat.le_max_left n m))
  have h2 := (h'.mono (Nat.le_max_right n m))
  unfold BitsLe at h1 h2 ⊢
  have : (a + b).natAbs ≤ a.natAbs + b.natAbs := Int.natAbs_add_le a b
  rw [Nat.pow_succ]
  omega
theorem BitsLe.mul {n m : Nat} {a b : Int} (h : BitsLe n a) (h' : BitsLe m b) : BitsLe (n + m) (a * b) := by
  unfold BitsLe at h h' ⊢
  rw [Int.natAbs_mul, Nat.pow_add]
  exact Nat.mul_lt_mul_of_lt_of_le h (Nat.le_of_lt h') (Nat.two_pow_pos m)
theorem BitsLe.cmul {n m : Nat} {a b : Int} (h : BitsLe n a) (h' : BitsLe m b) (hn : 0 < n) (hm : 0 < m) (hs : n + m ≤ 134217000) : CMulB a b := cmul_of n m h h' hn hm hs
theorem zipD_map {α β : Type} (f : α → D) (g : β → D) : ∀ (xs : List α) (ys : List β), zipD (xs.map f) (ys.map g) = (xs.zip ys).map fun p => .tup [f p.1, g p.2]
  | [], _ => rfl
  | _ :: _, [] => rfl
  | x :: xs, y :: ys => by
    have := zipD_map f g xs ys
    unfold zipD at this ⊢
    simp only [List.map_cons, List.zip_cons_cons]
    rw [this]
end DL
set_option maxRecDepth 100000
namespace DL
open PySem PySem.Spec PyProof.Rows L2
/-- a whole number that is none below nought -/
def natE (n : Nat) : D := .int (n : Int)
theorem EqE.nat : EqE natE 0 := ⟨fun n => PyData.int (n : Int), fun _ => rfl, fun _ => rfl, fun _ => Nat.le_refl _, fun a b => by
  show ((a : Int) == (b : Int)) = _
  by_cases h : a = b
  · simp [h]
  · have : ¬ ((a : Int) = b) := by omega
    simp [h, this]⟩
/-- x in a list of data -/
theorem inAF_of {α : Type} [DecidableEq α] {e : α → D} {n : Nat} (h : EqE e n) (hn : n + 1 ≤ 64) (hf : ∀ a, flatD (e a) = false) (neg : Bool) (a : α) (xs : List α) :
    inAF neg (e a) (.lst (xs.map e)) = some (.ok (.bl (if neg then !decide (a ∈ xs) else decide (a ∈ xs)))) := by
  obtain ⟨pe, h1, h2, h3, h4⟩ := h.ex
  have e1 : inSF neg (e a) (.lst (xs.map e)) = none := by unfold inSF; simp [hf]
  unfold inAF
  rw [e1]
  unfold inDF
  have e2 : toPy (.lst (xs.map e)) = some (.list (xs.map pe)) := by rw [toPy, toPyL_map h1]; rfl
  rw [h1, e2]
  have s1 : SeqAt.shaped (pe a) = true := by
    unfold SeqAt.shaped
    rw [h2, Bool.true_and]
    exact decide_eq_true (Nat.le_trans (h3 a) (by omega))
  have s2 : SeqAt.shaped (.list (xs.map pe)) = true := by
    unfold SeqAt.shaped
    have : (PyData.list (xs.map pe)).canLay0 = true := canLayAll_map h2 xs
    rw [this, Bool.true_and]
    exact decide_eq_true (Nat.le_trans (show PyData.depthAll (xs.map pe) + 1 ≤ n + 1 from Nat.succ_le_succ (depthAll_map h3 xs)) hn)
  have s3 : ((xs.map pe).any fun z => PyData.eqv z (pe a)) = decide (a ∈ xs) := by
    induction xs with
    | nil => rfl
    | cons x xs ih =>
      rw [List.map_cons, List.any_cons, h4, ih (by simp [inSF, hf]) (by rw [toPy, toPyL_map h1]; rfl) (by
        unfold SeqAt.shaped
        have : (PyData.list (xs.map pe)).canLay0 = true := canLayAll_map h2 xs
        rw [this, Bool.true_and]
        exact decide_eq_true (Nat.le_trans (show PyData.depthAll (xs.map pe) + 1 ≤ n + 1 from Nat.succ_le_succ (depthAll_map h3 xs)) hn))]
      by_cases hx : x = a
      · simp [hx]
      · have : ¬ a = x := fun z => hx z.symm
        simp [hx, this]
  show (if SeqAt.shaped (pe a) && SeqAt.shaped (.list (xs.map pe)) then _ else _) = _
  rw [s1, s2, s3]
  rfl
/-- where x stands first -/
theorem idxF_of {α : Type} [DecidableEq α] {e : α → D} {n : Nat} (h : EqE e n) (hn : n + 1 ≤ 64) (a : α) (xs : List α) :
    idxF (.lst (xs.map e)) (e a) = (xs.findIdx? fun z => decide (z = a)).map fun j => .ok (natE j) := by
  obtain ⟨pe, h1, h2, h3, h4⟩ := h.ex
  unfold idxF
  have e2 : toPy (.lst (xs.map e)) = some (.list (xs.map pe)) := by rw [toPy, toPyL_map h1]; rfl
  rw [h1, e2]
  have s1 : SeqAt.shaped (pe a) = true := by
    unfold SeqAt.shaped
    rw [h2, Bool.true_and]
    exact decide_eq_true (Nat.le_trans (h3 a) (by omega))
  have s2 : SeqAt.shaped (.list (xs.map pe)) = true := by
    unfold SeqAt.shaped
    have : (PyData.list (xs.map pe)).canLay0 = true := canLayAll_map h2 xs
    rw [this, Bool.true_and]
    exact decide_eq_true (Nat.le_trans (show PyData.depthAll (xs.map pe) + 1 ≤ n + 1 from Nat.succ_le_succ (depthAll_map h3 xs)) hn)
  show (if SeqAt.shaped (.list (xs.map pe)) && SeqAt.shaped (pe a) then _ else _) = _
  rw [s1, s2]
  have s3 : ((xs.map pe).findIdx? fun z => PyData.eqv z (pe a)) = xs.findIdx? fun z => decide (z = a) := by
    rw [List.findIdx?_map]
    congr 1
    funext z
    exact h4 z a
  simp only [Bool.true_and, if_true, s3]
  rfl
/-- an int in a row of ints -/
theorem inV_ints (i : Int) (xs : List Int) : inV (atV (.int i)) ((xs.map D.int).map atV) = decide (i ∈ xs) := by
  induction xs with
  | nil => rfl
  | cons x xs ih =>
    have e : eqV (atV (.int x)) (atV (.int i)) = decide (x = i) := by
      show (x == i) = _
      by_cases h : x = i <;> simp [h]
    unfold inV at ih ⊢
    rw [List.map_cons, List.map_cons, List.any_cons, ih, e]
    by_cases h : x = i
    · simp [h]
    · have : ¬ i = x := fun z => h z.symm
      simp [h, this]
theorem all_flat_ints (xs : List Int) : (xs.map D.int).all flatD = true := flat_ints xs
theorem inAF_ints (neg : Bool) (i : Int) (xs : List Int) : inAF neg (.int i) (.lst (xs.map .int)) = some (.ok (.bl (if neg then !decide (i ∈ xs) else decide (i ∈ xs)))) := by
  unfold inAF inSF
  simp only [all_flat_ints, inV_ints]
  rfl
theorem inAF_intsT (neg : Bool) (i : Int) (xs : List Int) : inAF neg (.int i) (.tup (xs.map .int)) = some (.ok (.bl (if neg then !decide (i ∈ xs) else decide (i ∈ xs)))) := by
  unfold inAF inSF
  simp only [all_flat_ints, inV_ints]
  rfl
/-! ### cuts -/
theorem cutD_to (ds : List D) (n : Nat) : cutD ds none (some (n : Int)) = ds.take n := by
  unfold cutD
  rw [HT.sIx_none, HT.sIx_nat, List.drop_zero, Nat.sub_zero]
  rcases Nat.le_total n ds.length with h | h
  · rw [Nat.min_eq_left h]
  · rw [Nat.min_eq_right h, List.take_of_length_le (Nat.le_refl _), List.take_of_length_le h]
theorem cutD_from (ds : List D) (n : Nat) : cutD ds (some (n : Int)) none = ds.drop n := by
  unfold cutD
  rw [HT.sIx_none, HT.sIx_nat]
  rcases Nat.le_total n ds.length with h | h
  · rw [Nat.min_eq_left h, List.take_of_length_le (by rw [List.length_drop]; exact Nat.le_refl _)]
  · rw [Nat.min_eq_right h, List.drop_of_length_le (Nat.le_refl _), List.drop_of_length_le h]; simp
theorem cutD_mid (ds : List D) (a b : Nat) : cutD ds (some (a : Int)) (some (b : Int)) = (ds.drop a).take (b - a) := by
  unfold cutD
  rw [HT.sIx_nat, HT.sIx_nat]
  rcases Nat.le_total a ds.length with h | h
  · rw [Nat.min_eq_left h]
    rcases Nat.le_total b ds.length with h' | h'
    · rw [Nat.min_eq_left h']
    · rw [Nat.min_eq_right h', List.take_of_length_le (by rw [List.length_drop]; exact Nat.le_refl _), List.take_of_length_le (by rw [List.length_drop]; omega)]
  · rw [Nat.min_eq_right h, List.drop_of_length_le (Nat.le_refl _), List.drop_of_length_le h]; simp
/-- a for that keeps a promise -/
theorem forD_rel {α β : Type} {bind : D → EnvD → Option EnvD} {body : EnvD → Option Out} {l : List Nat} (φ : β → EnvD) (ψ : α → D) (P : β → Prop) :
    ∀ (xs : List α) (s : β), P s → (∀ s x, x ∈ xs → P s → ∃ e1, bind (ψ x) (φ s) = some e1 ∧ ∃ s' e2, (body e1 = some (.nx e2) ∨ body e1 = some (.ct e2)) ∧ killE l e2 = φ s' ∧ P s') → ∃ s', forD bind body l (xs.map ψ) (φ s) = some (.nx (φ s')) ∧ P s'
  | [], s, hP, _ => ⟨s, rfl, hP⟩
  | x :: xs, s, hP, h => by
    obtain ⟨e1, h1, s', e2, h2, h3, h4⟩ := h s x List.mem_cons_self hP
    obtain ⟨s'', h5, h6⟩ := forD_rel φ ψ P xs s' h4 fun s y hy => h s y (List.mem_cons_of_mem _ hy)
    refine ⟨s'', ?_, h6⟩
    rw [List.map_cons, forD, h1]
    rcases h2 with h2 | h2 <;> simp only [h2, loopK, h3] <;> exact h5
/-- a for that keeps a promise, counted -/
theorem forD_cnt {α β : Type} {bind : D → EnvD → Option EnvD} {body : EnvD → Option Out} {l : List Nat} (φ : β → EnvD) (ψ : α → D) (P : Nat → β → Prop) :
    ∀ (xs : List α) (k : Nat) (s : β), P k s → (∀ j s x, x ∈ xs → k ≤ j → j < k + xs.length → P j s → ∃ e1, bind (ψ x) (φ s) = some e1 ∧ ∃ s' e2, (body e1 = some (.nx e2) ∨ body e1 = some (.ct e2)) ∧ killE l e2 = φ s' ∧ P (j + 1) s') → ∃ s', forD bind body l (xs.map ψ) (φ s) = some (.nx (φ s')) ∧ P (k + xs.length) s'
  | [], k, s, hP, _ => ⟨s, rfl, hP⟩
  | x :: xs, k, s, hP, h => by
    obtain ⟨e1, h1, s', e2, h2, h3, h4⟩ := h k s x List.mem_cons_self (Nat.le_refl _) (by rw [List.length_cons]; omega) hP
    obtain ⟨s'', h5, h6⟩ := forD_cnt φ ψ P xs (k + 1) s' h4 fun j s y hy hj hj' => h j s y (List.mem_cons_of_mem _ hy) (by omega) (by rw [List.length_cons]; omega)
    have e : k + 1 + xs.length = k + (x :: xs).length := by rw [List.length_cons]; omega
    refine ⟨s'', ?_, e ▸ h6⟩
    rw [List.map_cons, forD, h1]
    rcases h2 with h2 | h2 <;> simp only [h2, loopK, h3] <;> exact h5
theorem rgD_nat (n : Nat) : rgD 0 n = (List.range n).map natE := by
  unfold rgD natE
  refine List.map_congr_left fun k _ => ?_
  congr 1
  omega
theorem enumD_map {α : Type} (e : α → D) (xs : List α) : enumD (xs.map e) = ((List.range xs.length).zip xs).map fun p => .tup [natE p.1, e p.2] := by
  unfold enumD natE
  rw [List.length_map]
  generalize List.range xs.length = ys
  induction ys generalizing xs with
  | nil => rfl
  | cons y ys ih => cases xs with
    | nil => rfl
    | cons x xs => simp [ih xs]
theorem len_map {α : Type} (e : α → D) (xs : List α) : lenF [.lst (xs.map e)] = some (natE xs.length) := by
  show some (D.int ((xs.map e).length : Int)) = _
  rw [List.length_map]; rfl
theorem len_mapT {α : Type} (e : α → D) (xs : List α) : lenF [.tup (xs.map e)] = some (natE xs.length) := by
  show some (D.int ((xs.map e).length : Int)) = _
  rw [List.length_map]; rfl
theorem ix_map {α : Type} (e : α → D) (xs : List α) (n : Nat) (h : n < xs.length) : ixF (.lst (xs.map e)) (.int (n : Int)) = some (.ok (e xs[n])) := by
  rw [ixF_lst, atI_nat' (by simpa using h)]
  simp [h]
theorem ix_mapT {α : Type} (e : α → D) (xs : List α) (n : Nat) (h : n < xs.length) : ixF (.tup (xs.map e)) (.int (n : Int)) = some (.ok (e xs[n])) := by
  rw [ixF_tup, atI_nat' (by simpa using h)]
  simp [h]
theorem immL_map {α : Type} {e : α → D} (h : ∀ a, immD (e a) = true) (xs : List α) : immL (xs.map e) = true := by
  induction xs with
  | nil => exact immL_nil
  | cons x xs ih => rw [List.map_cons, immL_cons, h, ih]; rfl
@[simp] theorem immD_natE (n : Nat) : immD (natE n) = true := immD_int
@[simp] theorem immL_nats (xs : List Nat) : immL (xs.map natE) = true := immL_map immD_natE xs
/-! ### pieces and words -/
def wordE (w : List Int) : D := .tup (w.map .int)
def pieceE (p : List Nat) : D := .tup (p.map natE)
def wordsE (ws : List (List Int)) : D := .lst (ws.map wordE)
def shapeE (ps : List (List Nat)) : D := .lst (ps.map pieceE)
theorem EqE.word : EqE wordE 1 := EqE.int.tup
theorem EqE.piece : EqE pieceE 1 := EqE.nat.tup
theorem EqE.words : EqE wordsE 2 := EqE.word.lst
theorem EqE.shape : EqE shapeE 2 := EqE.piece.lst
@[simp] theorem immD_wordE (w : List Int) : immD (wordE w) = true := by rw [wordE, immD_tup]; exact immL_ints w
@[simp] theorem immD_pieceE (p : List Nat) : immD (pieceE p) = true := by rw [pieceE, immD_tup]; exact immL_nats p
/-- a for by its fold, with what stays true -/
theorem forD_foldI {α β : Type} {bind : D → EnvD → Option EnvD} {body : EnvD → Option Out} {l : List Nat} (φ : β → EnvD) (ψ : α → D) (step : β → α → β) (I : Nat → β → Prop) :
    ∀ (xs : List α) (k : Nat) (s : β), I k s → (∀ j s x, x ∈ xs → k ≤ j → j < k + xs.length → I j s → (∃ e1, bind (ψ x) (φ s) = some e1 ∧ ∃ e2, (body e1 = some (.nx e2) ∨ body e1 = some (.ct e2)) ∧ killE l e2 = φ (step s x)) ∧ I (j + 1) (step s x)) →
      forD bind body l (xs.map ψ) (φ s) = some (.nx (φ (xs.foldl step s))) ∧ I (k + xs.length) (xs.foldl step s)
  | [], k, s, hI, _ => ⟨rfl, hI⟩
  | x :: xs, k, s, hI, h => by
    obtain ⟨⟨e1, h1, e2, h2, h3⟩, h4⟩ := h k s x List.mem_cons_self (Nat.le_refl _) (by rw [List.length_cons]; omega) hI
    obtain ⟨h5, h6⟩ := forD_foldI (bind := bind) (body := body) (l := l) φ ψ step I xs (k + 1) (step s x) h4 fun j s y hy hj hj' => h j s y (List.mem_cons_of_mem _ hy) (by omega) (by rw [List.length_cons]; omega)
    have e : k + 1 + xs.length = k + (x :: xs).length := by rw [List.length_cons]; omega
    refine ⟨?_, by rw [List.foldl_cons]; exact e ▸ h6⟩
    rw [List.map_cons, forD, h1]
    rcases h2 with h2 | h2 <;> simp only [h2, loopK, h3] <;> exact h5
theorem wordE_add (im : Bool) (a b : List Int) (h : a.length + b.length ≤ sizeLine) : addF im (wordE a) (wordE b) = some (.ok (wordE (a ++ b))) := by
  have e : immL (a.map D.int ++ b.map D.int) = true := by rw [← List.map_append]; exact immL_ints _
  simp only [addF, wordE, List.length_map, if_pos h, e, Bool.or_true, if_true, List.map_append]
theorem wordE_one (x : Int) : D.tup [.int x] = wordE [x] := rfl
theorem wordE_nil : D.tup [] = wordE [] := rfl
theorem wordE_to (im : Bool) (w : List Int) (n : Nat) : slF im (wordE w) none (some (n : Int)) = some (.ok (wordE (w.take n))) := by
  have e : immL ((w.take n).map D.int) = true := immL_ints _
  simp only [slF, wordE, cutD_to, ← List.map_take, e, Bool.or_true, if_true]
theorem wordE_from (im : Bool) (w : List Int) (n : Nat) : slF im (wordE w) (some (n : Int)) none = some (.ok (wordE (w.drop n))) := by
  have e : immL ((w.drop n).map D.int) = true := immL_ints _
  simp only [slF, wordE, cutD_from, ← List.map_drop, e, Bool.or_true, if_true]
theorem wordE_len (w : List Int) : lenF [wordE w] = some (.int (w.length : Int)) := len_mapT _ w
theorem wordE_ix (w : List Int) (n : Nat) (h : n < w.length) : ixF (wordE w) (.int (n : Int)) = some (.ok (.int (w.getD n 0))) := by
  rw [wordE, ix_mapT D.int w n h]
  simp [h]
theorem wordsE_in (neg : Bool) (w : List Int) (ws : List (List Int)) : inAF neg (wordE w) (wordsE ws) = some (.ok (.bl (if neg then !decide (w ∈ ws) else decide (w ∈ ws)))) := by
  have h := inAF_of EqE.word (by decide) (fun _ => rfl) neg w ws
  by_cases hw : w ∈ ws <;> simp only [hw, decide_true, decide_false] at h ⊢ <;> exact h
theorem wordsE_len (ws : List (List Int)) : lenF [wordsE ws] = some (.int (ws.length : Int)) := len_map _ ws
theorem wordsE_idx (w : List Int) (ws : List (List Int)) : idxF (wordsE ws) (wordE w) = (ws.findIdx? fun z => decide (z = w)).map fun j => .ok (natE j) := idxF_of EqE.word (by decide) w ws
theorem wordsE_imm (ws : List (List Int)) : immL (ws.map wordE) = true := immL_map immD_wordE ws
theorem shapeE_len (ps : List (List Nat)) : lenF [shapeE ps] = some (.int (ps.length : Int)) := len_map _ ps
theorem shapeE_ix (ps : List (List Nat)) (n : Nat) (h : n < ps.length) : ixF (shapeE ps) (.int (n : Int)) = some (.ok (pieceE ps[n])) := ix_map _ ps n h
theorem pieceE_len (p : List Nat) : lenF [pieceE p] = some (.int (p.length : Int)) := len_mapT _ p
theorem pieceE_ix (p : List Nat) (n : Nat) (h : n < p.length) : ixF (pieceE p) (.int (n : Int)) = some (.ok (natE p[n])) := ix_mapT _ p n h
theorem wordsL_in (neg : Bool) (w : List Int) (ws : List (List Int)) : inAF neg (wordE w) (.lst (ws.map wordE)) = some (.ok (.bl (if neg then !decide (w ∈ ws) else decide (w ∈ ws)))) := wordsE_in neg w ws
theorem wordsL_idx (w : List Int) (ws : List (List Int)) : idxF (.lst (ws.map wordE)) (wordE w) = (ws.findIdx? fun z => decide (z = w)).map fun j => .ok (natE j) := wordsE_idx w ws
theorem shapeL_ix (ps : List (List Nat)) (n : Nat) (h : n < ps.length) : ixF (.lst (ps.map pieceE)) (.int (n : Int)) = some (.ok (pieceE ps[n])) := ix_map _ ps n h
/-- a for that keeps a promise or hands back -/
theorem forD_relX {α β : Type} {bind : D → EnvD → Option EnvD} {body : EnvD → Option Out} {l : List Nat} (φ : β → EnvD) (ψ : α → D) (P : Nat → β → Prop) (Q : D → Prop) :
    ∀ (xs : List α) (k : Nat) (s : β), P k s → (∀ j s x, xs[j - k]? = some x → k ≤ j → j < k + xs.length → P j s → ∃ e1, bind (ψ x) (φ s) = some e1 ∧ ((∃ d, body e1 = some (.rt d) ∧ Q d) ∨ ∃ s' e2, (body e1 = some (.nx e2) ∨ body e1 = some (.ct e2)) ∧ killE l e2 = φ s' ∧ P (j + 1) s')) →
      (∃ d, forD bind body l (xs.map ψ) (φ s) = some (.rt d) ∧ Q d) ∨ ∃ s', forD bind body l (xs.map ψ) (φ s) = some (.nx (φ s')) ∧ P (k + xs.length) s'
  | [], k, s, hP, _ => .inr ⟨s, rfl, hP⟩
  | x :: xs, k, s, hP, h => by
    obtain ⟨e1, h1, h2⟩ := h k s x (by simp) (Nat.le_refl _) (by rw [List.length_cons]; omega) hP
    rw [List.map_cons, forD, h1]
    rcases h2 with ⟨d, h2, h3⟩ | ⟨s', e2, h2, h3, h4⟩
    · refine .inl ⟨d, ?_, h3⟩
      simp only [h2, loopK]
    · have ih := forD_relX (bind := bind) (body := body) (l := l) φ ψ P Q xs (k + 1) s' h4 fun j s y hy hj hj' hp => h j s y (by
        have e : j - k = (j - (k + 1)) + 1 := by omega
        rw [e, List.getElem?_cons_succ]; exact hy) (by omega) (by rw [List.length_cons]; omega) hp
      have e : k + 1 + xs.length = k + (x :: xs).length := by rw [List.length_cons]; omega
      rw [← e]
      rcases h2 with h2 | h2 <;> simp only [h2, loopK, h3] <;> exact ih
theorem natE_def (n : Nat) : natE n = .int (n : Int) := rfl
end DL
set_option maxRecDepth 100000
namespace DL
open PySem PySem.Spec PyProof.Rows L2
section
variable (a b : XE) (env : EnvD)
@[simp] theorem nev_f : XS.nev.f env = none := (rfl)
@[simp] theorem eqt_f : (XE.eqt a b).f env = b2 (a.f env) (b.f env) eqTF := (rfl)
@[simp] theorem net_f : (XE.net a b).f env = b2 (a.f env) (b.f env) neTF := (rfl)
@[simp] theorem ned_f : (XE.ned a b).f env = b2 (a.f env) (b.f env) neDF := (rfl)
end
end DL
set_option maxRecDepth 100000
namespace DL
open PySem PySem.Spec PyProof.Rows L2
/-! ### chains: dicts of whole numbers by whole numbers -/
abbrev Ch := List (Int × Int)
def kvE (c : Ch) : List (Key × D) := c.map fun p => (.inl p.1, .int p.2)
def chE (c : Ch) : D := .dct (kvE c)
def lk (c : Ch) (k : Int) : Option Int := (c.find? fun p => decide (p.1 = k)).map (·.2)
def val (c : Ch) (k : Int) : Int := (lk c k).getD 0
def put (c : Ch) (k v : Int) : Ch := if (lk c k).isSome = true then c.map (fun p => if p.1 = k then (p.1, v) else p) else c ++ [(k, v)]
theorem lk_nil (k : Int) : lk [] k = none := rfl
theorem lk_pos {p : Int × Int} {c : Ch} {k : Int} (h : p.1 = k) : lk (p :: c) k = some p.2 := by
  unfold lk; rw [List.find?_cons_of_pos (by simpa using h)]; rfl
theorem lk_neg {p : Int × Int} {c : Ch} {k : Int} (h : ¬ p.1 = k) : lk (p :: c) k = lk c k := by
  unfold lk; rw [List.find?_cons_of_neg (by simpa using h)]
theorem valD_kv (c : Ch) (k : Int) : valD (kvE c) (.inl k) = (lk c k).map D.int := by
  induction c with
  | nil => rfl
  | cons p c ih =>
    unfold kvE at ih ⊢
    rw [List.map_cons]
    by_cases h : p.1 = k
    · rw [lk_pos h]
      unfold valD
      rw [List.find?_cons_of_pos (by simp [h])]; rfl
    · rw [lk_neg h, ← ih]
      unfold valD
      rw [List.find?_cons_of_neg (by simpa using h)]
theorem bDct_ch (c : Ch) (g : List (Key × D) → Option (R D)) : bDct (some (.ok (chE c))) g = g (kvE c) := rfl
theorem dget_ch (c : Ch) (k z : Int) : dgetF (kvE c) (.int k) (.int z) = some (.ok (.int ((lk c k).getD z))) := by
  unfold dgetF
  show (if immD ((valD (kvE c) (.inl k)).getD (.int z)) = true then some (R.ok ((valD (kvE c) (.inl k)).getD (.int z))) else none) = _
  rw [valD_kv]
  cases lk c k <;> simp
theorem imm_kv (c : Ch) : immL ((kvE c).map (·.2)) = true := by
  unfold kvE
  rw [List.map_map]
  have : (c.map ((fun x : Key × D => x.2) ∘ fun p => (.inl p.1, .int p.2))) = (c.map (·.2)).map D.int := by rw [List.map_map]; rfl
  rw [this]; exact immL_ints _
theorem len_kv (c : Ch) : (kvE c).length = c.length := List.length_map _
theorem lk_append {c : Ch} {k : Int} (h : lk c k = none) (d : Ch) : lk (c ++ d) k = lk d k := by
  induction c with
  | nil => rfl
  | cons p c ih =>
    by_cases hp : p.1 = k
    · rw [lk_pos hp] at h; cases h
    · rw [lk_neg hp] at h
      rw [List.cons_append, lk_neg hp, ih h]
theorem put_ch (c : Ch) (k v : Int) (h : c.length < sizeLine) : putF (.int v) (.int k) (chE c) = some (chE (put c k v)) := by
  show ((putDF (kvE c) (.inl k) (.int v)).map D.dct) = _
  unfold putDF
  rw [len_kv, if_pos h, valD_kv]
  unfold put
  cases e : lk c k with
  | none => simp [chE, kvE]
  | some x =>
    simp only [Option.map_some, imm_kv, immD_int, Bool.and_self, if_true, Option.isSome_some]
    congr 1
    unfold chE kvE
    rw [List.map_map, List.map_map]
    congr 1
    refine List.map_congr_left fun p _ => ?_
    by_cases hp : p.1 = k
    · simp [hp]
    · simp [hp]
theorem lenD_ch (c : Ch) : lenDF [chE c] = some (.int (c.length : Int)) := by
  show some (D.int ((kvE c).length : Int)) = _
  rw [len_kv]
theorem dict_ch (c : Ch) : dictF [chE c] = some (.ok (chE c)) := by
  show (if immL ((kvE c).map (·.2)) = true then some (R.ok (D.dct (kvE c))) else none) = _
  rw [imm_kv]; rfl
theorem dix_ch (c : Ch) (k : Int) : dixF (chE c) (.int k) = (lk c k).map fun v => .ok (.int v) := by
  show (valD (kvE c) (.inl k)).map R.ok = _
  rw [valD_kv]
  cases lk c k <;> rfl
theorem din_ch (neg : Bool) (c : Ch) (k : Int) : dinF neg (.int k) (chE c) = some (.ok (.bl (if neg then !(lk c k).isSome else (lk c k).isSome))) := by
  show some (R.ok (D.bl (if neg then !(valD (kvE c) (.inl k)).isSome else (valD (kvE c) (.inl k)).isSome))) = _
  rw [valD_kv]
  cases lk c k <;> rfl
theorem isi_ch (T : Ty) (c : Ch) : isiD T (chE c) = some (T == .dict) := rfl
theorem items_ch (c : Ch) : dsD true (kvE c) = c.map fun p => .tup [.int p.1, .int p.2] := by
  unfold dsD kvE
  rw [List.map_map]; rfl
theorem keys_ch (c : Ch) : dsD false (kvE c) = (c.map (·.1)).map D.int := by
  unfold dsD kvE
  rw [List.map_map, List.map_map]; rfl
theorem keys_ch' (c : Ch) : dsD false (kvE c) = c.map fun p => D.int p.1 := by
  rw [keys_ch, List.map_map]; rfl
theorem fordct_ch {i : Nat} {items : Bool} {g : XG} {s : XS} {l : List Nat} {env : EnvD} {c : Ch} (h : eget env i = some (.ok (chE c))) : (XS.fordct i items false g s l).f env = noEx (forD g.f s.f l (dsD items (kvE c)) env) := by
  rw [fordct_f, h]; rfl
theorem lcd_ch {i : Nat} {items : Bool} {own : List Nat} {g : XG} {t : XT} {e : XE} {env : EnvD} {c : Ch} (h : eget env i = some (.ok (chE c))) : (XE.lcd own i items false g t e).f env = (compD g.f t.f e.f (wipeE env own) (dsD items (kvE c)) []).map fun ds => .ok (.lst ds) := by
  rw [lcd_f, h]; rfl
theorem noEx_nx (e : EnvD) : noEx (some (.nx e)) = some (.nx e) := rfl
/-! ### how chains go on -/
def Nd (c : Ch) : Prop := (c.map (·.1)).Nodup
def Clean (c : Ch) : Prop := ∀ p ∈ c, p.2 ≠ 0
theorem lk_none {c : Ch} {k : Int} : lk c k = none ↔ ∀ p ∈ c, ¬ p.1 = k := by
  induction c with
  | nil => simp [lk_nil]
  | cons p c ih =>
    by_cases h : p.1 = k
    · rw [lk_pos h]; simp [h]
    · rw [lk_neg h, ih]; simp [h]
theorem lk_mem {c : Ch} {k v : Int} (h : lk c k = some v) : (k, v) ∈ c := by
  induction c with
  | nil => cases h
  | cons p c ih =>
    by_cases hp : p.1 = k
    · rw [lk_pos hp] at h
      cases h
      rw [← hp]; exact List.mem_cons_self
    · rw [lk_neg hp] at h
      exact List.mem_cons_of_mem _ (ih h)
theorem Nd.lk {c : Ch} (h : Nd c) {p : Int × Int} (hp : p ∈ c) : lk c p.1 = some p.2 := by
  induction c with
  | nil => cases hp
  | cons q c ih =>
    unfold Nd at h
    rw [List.map_cons, List.nodup_cons] at h
    rcases List.mem_cons.mp hp with rfl | hp
    · exact lk_pos rfl
    · rw [lk_neg fun z => h.1 (List.mem_map.mpr ⟨p, hp, z.symm⟩)]
      exact ih h.2 hp
theorem lk_map_put (c : Ch) (k v j : Int) : lk (c.map fun p => if p.1 = k then (p.1, v) else p) j = if j = k then (lk c k).map (fun _ => v) else lk c j := by
  induction c with
  | nil => simp [lk_nil]
  | cons p c ih =>
    rw [List.map_cons]
    by_cases h : p.1 = k
    · rw [if_pos h]
      by_cases hj : j = k
      · rw [lk_pos (by simp [h, hj]), if_pos hj, lk_pos h]; rfl
      · rw [lk_neg (by show ¬ p.1 = j; omega), ih, if_neg hj, if_neg hj, lk_neg (by omega)]
    · rw [if_neg h]
      by_cases hj : j = k
      · rw [lk_neg (by omega), ih, if_pos hj, if_pos hj, lk_neg h]
      · rw [if_neg hj]
        by_cases hp : p.1 = j
        · rw [lk_pos hp, lk_pos hp]
        · rw [lk_neg hp, lk_neg hp, ih, if_neg hj]
theorem lk_put (c : Ch) (k v j : Int) : lk (put c k v) j = if j = k then some v else lk c j := by
  unfold put
  cases e : lk c k with
  | none =>
    simp only [Option.isSome_none, Bool.false_eq_true, if_false]
    by_cases hj : j = k
    · subst hj
      rw [lk_append e, if_pos rfl]; exact lk_pos rfl
    · rw [if_neg hj]
      cases e2 : lk c j with
      | none => rw [lk_append e2]; exact lk_neg (by show ¬ k = j; omega)
      | some w =>
        have : lk (c ++ [(k, v)]) j = lk c j := by
          clear e
          induction c with
          | nil => cases e2
          | cons p c ih =>
            rw [List.cons_append]
            by_cases hp : p.1 = j
            · rw [lk_pos hp, lk_pos hp]
            · rw [lk_neg hp] at e2 ⊢
              rw [ih e2, lk_neg hp]
        rw [this, e2]
  | some x =>
    simp only [Option.isSome_some, if_true]
    rw [lk_map_put, e]; rfl
theorem val_put (c : Ch) (k v j : Int) : val (put c k v) j = if j = k then v else val c j := by
  unfold val
  rw [lk_put]; split <;> rfl
theorem put_keys (c : Ch) (k v : Int) : (put c k v).map (·.1) = if (lk c k).isSome = true then c.map (·.1) else c.map (·.1) ++ [k] := by
  unfold put
  split
  · rw [List.map_map]
    refine List.map_congr_left fun p _ => ?_
    show (if p.1 = k then (p.1, v) else p).1 = p.1
    split <;> rfl
  · rw [List.map_append]; rfl
theorem Nd.put {c : Ch} (h : Nd c) (k v : Int) : Nd (put c k v) := by
  unfold Nd at h ⊢
  rw [put_keys]
  cases e : DL.lk c k with
  | none =>
    simp only [Option.isSome_none, Bool.false_eq_true, if_false]
    rw [List.nodup_append]
    refine ⟨h, by simp, fun a ha b hb => ?_⟩
    obtain ⟨p, hp, rfl⟩ := List.mem_map.mp ha
    rw [List.mem_singleton.mp hb]
    exact lk_none.mp e p hp
  | some x => simpa using h
theorem put_len (c : Ch) (k v : Int) : (put c k v).length ≤ c.length + 1 := by
  unfold put; split <;> simp
theorem put_key_mem {c : Ch} {k v : Int} {p : Int × Int} (h : p ∈ put c k v) : p.1 = k ∨ ∃ q ∈ c, q.1 = p.1 := by
  have : p.1 ∈ (put c k v).map (·.1) := List.mem_map.mpr ⟨p, h, rfl⟩
  rw [put_keys] at this
  split at this
  · obtain ⟨q, hq, e⟩ := List.mem_map.mp this
    exact .inr ⟨q, hq, e⟩
  · rcases List.mem_append.mp this with z | z
    · obtain ⟨q, hq, e⟩ := List.mem_map.mp z
      exact .inr ⟨q, hq, e⟩
    · exact .inl (List.mem_singleton.mp z)
theorem put_vals {c : Ch} {k v : Int} {p : Int × Int} (h : p ∈ put c k v) : p.2 = v ∨ p ∈ c := by
  unfold put at h
  split at h
  · obtain ⟨q, hq, e⟩ := List.mem_map.mp h
    split at e
    · exact .inl (by rw [← e])
    · exact .inr (e ▸ hq)
  · rcases List.mem_append.mp h with z | z
    · exact .inr z
    · exact .inl (by rw [List.mem_singleton.mp z])
theorem put_new {c : Ch} {k : Int} (h : lk c k = none) (v : Int) : put c k v = c ++ [(k, v)] := by
  unfold put; rw [h]; rfl
/-- without noughts -/
def wn (c : Ch) : Ch := c.filter fun p => decide (p.2 ≠ 0)
theorem wn_clean (c : Ch) : Clean (wn c) := fun p hp => by simpa using (List.mem_filter.mp hp).2
theorem wn_nd {c : Ch} (h : Nd c) : Nd (wn c) := List.Sublist.nodup (List.Sublist.map _ List.filter_sublist) h
theorem wn_len (c : Ch) : (wn c).length ≤ c.length := List.length_filter_le _ _
theorem lk_wn {c : Ch} (h : Nd c) (k : Int) : lk (wn c) k = if val c k = 0 then none else lk c k := by
  unfold val
  cases e : lk c k with
  | none =>
    have : lk (wn c) k = none := lk_none.mpr fun p hp => lk_none.mp e p (List.mem_filter.mp hp).1
    rw [this]; simp
  | some v =>
    have hm := lk_mem e
    by_cases hv : v = 0
    · subst hv
      simp only [Option.getD_some, if_true]
      refine lk_none.mpr fun p hp z => ?_
      have h1 := List.mem_filter.mp hp
      have h2 := h.lk h1.1
      rw [z, e] at h2
      injection h2 with h2
      have := h1.2
      simp [← h2] at this
    · simp only [Option.getD_some, if_neg hv]
      have : ((k, v) : Int × Int) ∈ wn c := List.mem_filter.mpr ⟨hm, by simpa using hv⟩
      exact (wn_nd h).lk this
theorem val_wn {c : Ch} (h : Nd c) (k : Int) : val (wn c) k = val c k := by
  have := lk_wn h k
  unfold val at this ⊢
  rw [this]
  split
  · next z => rw [z]; rfl
  · rfl
/-- put one by one into a new dict -/
theorem fresh_fold (f : Int × Int → Int) (t : Int × Int → Bool) : ∀ (c acc : Ch), Nd c → (∀ p ∈ c, lk acc p.1 = none) → c.foldl (fun a p => if t p then put a p.1 (f p) else a) acc = acc ++ (c.filter t).map fun p => (p.1, f p)
  | [], acc, _, _ => by simp
  | p :: c, acc, hn, h => by
    unfold Nd at hn
    rw [List.map_cons, List.nodup_cons] at hn
    rw [List.foldl_cons]
    cases e : t p with
    | false =>
      simp only [Bool.false_eq_true, if_false]
      rw [fresh_fold f t c acc hn.2 fun q hq => h q (List.mem_cons_of_mem _ hq)]
      rw [List.filter_cons_of_neg (by simp [e])]
    | true =>
      simp only [if_true]
      rw [put_new (h p List.mem_cons_self), fresh_fold f t c _ hn.2 fun q hq => ?_]
      · rw [List.filter_cons_of_pos e]; simp
      · rw [lk_append (h q (List.mem_cons_of_mem _ hq))]
        exact lk_neg fun z => hn.1 (List.mem_map.mpr ⟨q, hq, z.symm⟩)
theorem wn_fold {c : Ch} (h : Nd c) : c.foldl (fun a p => if decide (p.2 ≠ 0) then put a p.1 p.2 else a) [] = wn c := by
  rw [fresh_fold (·.2) (fun p => decide (p.2 ≠ 0)) c [] h fun _ _ => rfl]
  simp [wn]
/-! ### equal chains -/
theorem nodup_le : ∀ (a b : List Int), a.Nodup → (∀ x ∈ a, x ∈ b) → a.length ≤ b.length
  | [], b, _, _ => Nat.zero_le _
  | x :: a, b, hn, h => by
    rw [List.nodup_cons] at hn
    have hb := h x List.mem_cons_self
    have := nodup_le a (b.erase x) hn.2 fun y hy => by
      have : y ≠ x := fun z => hn.1 (z ▸ hy)
      exact (List.mem_erase_of_ne this).mpr (h y (List.mem_cons_of_mem _ hy))
    rw [List.length_erase_of_mem hb] at this
    have : 0 < b.length := List.length_pos_of_mem hb
    rw [List.length_cons]; omega
def SameCh (a b : Ch) : Prop := a.length = b.length ∧ ∀ p ∈ a, lk b p.1 = some p.2
theorem SameCh.refl {a : Ch} (h : Nd a) : SameCh a a := ⟨rfl, fun _ hp => h.lk hp⟩
theorem same_of {a b : Ch} (na : Nd a) (nb : Nd b) (ca : Clean a) (cb : Clean b) (h : ∀ k, val a k = val b k) : SameCh a b := by
  have key : ∀ {a b : Ch}, Nd a → Clean a → (∀ k, val a k = val b k) → ∀ p ∈ a, lk b p.1 = some p.2 := by
    intro a b na ca h p hp
    have h1 := h p.1
    unfold val at h1
    rw [na.lk hp] at h1
    cases e : lk b p.1 with
    | none => rw [e] at h1; exact absurd h1 (ca p hp)
    | some v => rw [e] at h1; exact congrArg some h1.symm
  have k1 := key na ca h
  have k2 := key nb cb fun k => (h k).symm
  have sub : ∀ {a b : Ch}, (∀ p ∈ a, lk b p.1 = some p.2) → ∀ x ∈ a.map (·.1), x ∈ b.map (·.1) := by
    intro a b h x hx
    obtain ⟨p, hp, rfl⟩ := List.mem_map.mp hx
    exact List.mem_map.mpr ⟨_, lk_mem (h p hp), rfl⟩
  have l1 := nodup_le _ _ na (sub k1)
  have l2 := nodup_le _ _ nb (sub k2)
  rw [List.length_map, List.length_map] at l1 l2
  exact ⟨by omega, k1⟩
theorem eqTD_mono {n : Nat} {x y : D} (h : eqTD n x y = true) : eqTD (n + 1) x y = true := by
  unfold eqTD
  rw [Bool.or_eq_true]
  exact .inl h
theorem eqTD_leaf {α : Type} [DecidableEq α] {e : α → D} {m : Nat} (h : EqE e m) (hm : m ≤ 64) (a : α) : ∀ n, eqTD n (e a) (e a) = true
  | 0 => by
    obtain ⟨pe, h1, h2, h3, h4⟩ := h.ex
    unfold eqTD
    rw [h1]
    have s1 : SeqAt.shaped (pe a) = true := by
      unfold SeqAt.shaped
      rw [h2, Bool.true_and]
      exact decide_eq_true (Nat.le_trans (h3 a) hm)
    show (SeqAt.shaped (pe a) && (SeqAt.shaped (pe a) && PyData.eqv (pe a) (pe a))) = true
    rw [s1, h4]; simp
  | n + 1 => eqTD_mono (eqTD_leaf h hm a n)
theorem eqTD_ch {a b : Ch} (h : SameCh a b) : ∀ n, eqTD (n + 1) (chE a) (chE b) = true := by
  intro n
  unfold eqTD
  rw [Bool.or_eq_true]
  refine .inr ?_
  show (decide ((kvE a).length = (kvE b).length) && (kvE a).all _) = true
  rw [len_kv, len_kv, h.1, Bool.and_eq_true]
  refine ⟨by simp, ?_⟩
  rw [List.all_eq_true]
  intro p hp
  obtain ⟨q, hq, rfl⟩ := List.mem_map.mp hp
  show (match valD (kvE b) (.inl q.1) with | some y => eqTD n (.int q.2) y | none => false) = true
  rw [valD_kv, h.2 q hq]
  exact eqTD_leaf EqE.int (by decide) q.2 n
theorem eqT_ch {a b : Ch} (h : SameCh a b) : eqTF (chE a) (chE b) = some (.ok (.bl true)) := by
  unfold eqTF
  rw [if_pos (eqTD_ch h 2)]
theorem intKV_kv : ∀ c : Ch, intKV (kvE c) = some (c.map fun p => (.inl p.1, p.2))
  | [] => rfl
  | p :: c => by
    show (intKV (kvE c)).map ((.inl p.1, p.2) :: ·) = _
    rw [intKV_kv c]; rfl
theorem lk_keys (b : Ch) (k : Int) : ((b.map fun p => ((.inl p.1, p.2) : Key × Int)).find? fun kv => decide (kv.1 = .inl k)).map (·.2) = lk b k := by
  induction b with
  | nil => rfl
  | cons p b ih =>
    rw [List.map_cons]
    by_cases h : p.1 = k
    · rw [lk_pos h, List.find?_cons_of_pos (by simp [h])]; rfl
    · rw [lk_neg h, List.find?_cons_of_neg (by simpa using h), ih]
theorem neD_ch {a b : Ch} (h : SameCh a b) : neDF (chE a) (chE b) = some (.ok (.bl false)) := by
  unfold neDF chE
  simp only [intKV_kv]
  rw [if_pos]
  refine ⟨by simpa using h.1, fun p hp => ?_⟩
  obtain ⟨q, hq, rfl⟩ := List.mem_map.mp hp
  show ((b.map fun p => ((.inl p.1, p.2) : Key × Int)).find? fun kv => decide (kv.1 = .inl q.1)).map (·.2) = some q.2
  rw [lk_keys]; exact h.2 q hq
theorem eqT_lst {xs ys : List D} (hl : xs.length = ys.length) (h : ∀ p ∈ xs.zip ys, eqTD 2 p.1 p.2 = true) : eqTF (.lst xs) (.lst ys) = some (.ok (.bl true)) := by
  unfold eqTF
  rw [if_pos]
  unfold eqTD
  rw [Bool.or_eq_true]
  refine .inr ?_
  show (decide (xs.length = ys.length) && (xs.zip ys).all _) = true
  rw [Bool.and_eq_true]
  exact ⟨decide_eq_true hl, List.all_eq_true.mpr h⟩
theorem neT_lst {xs ys : List D} (hl : xs.length = ys.length) (h : ∀ p ∈ xs.zip ys, eqTD 2 p.1 p.2 = true) : neTF (.lst xs) (.lst ys) = some (.ok (.bl false)) := by
  unfold neTF
  simp only
  rw [if_pos]
  rw [Bool.and_eq_true]
  exact ⟨decide_eq_true hl, List.all_eq_true.mpr h⟩
theorem scr_cuts (im : Bool) (ns : List Int) (a b : Nat) : slF im (.scr (ns.map .int)) (some (a : Int)) (some (b : Int)) = some (.ok (.lst (((ns.drop a).take (b - a)).map .int))) := by
  have e : immL (((ns.drop a).take (b - a)).map D.int) = true := immL_ints _
  simp only [slF, cutD_mid, ← List.map_drop, ← List.map_take, e, Bool.or_true, if_true]
theorem fresh_all (f : Int × Int → Int) (c acc : Ch) (hn : Nd c) (h : ∀ p ∈ c, lk acc p.1 = none) : c.foldl (fun a p => put a p.1 (f p)) acc = acc ++ c.map fun p => (p.1, f p) := by
  have := fresh_fold f (fun _ => true) c acc hn h
  rw [List.filter_eq_self.mpr fun _ _ => rfl] at this
  exact this
theorem val_cons_pos {p : Int × Int} {c : Ch} {k : Int} (h : p.1 = k) : val (p :: c) k = p.2 := by unfold val; rw [lk_pos h]; rfl
theorem val_cons_neg {p : Int × Int} {c : Ch} {k : Int} (h : ¬ p.1 = k) : val (p :: c) k = val c k := by unfold val; rw [lk_neg h]
theorem val_none {c : Ch} {k : Int} (h : ∀ p ∈ c, ¬ p.1 = k) : val c k = 0 := by unfold val; rw [lk_none.mpr h]; rfl
theorem Nd.tail {p : Int × Int} {c : Ch} (h : Nd (p :: c)) : Nd c ∧ ∀ q ∈ c, ¬ q.1 = p.1 := by
  unfold Nd at h
  rw [List.map_cons, List.nodup_cons] at h
  exact ⟨h.2, fun q hq z => h.1 (List.mem_map.mpr ⟨q, hq, z⟩)⟩
/-- so many times -/
def scl (n : Int) (c : Ch) : Ch := c.map fun p => (p.1, n * p.2)
theorem scl_nd {c : Ch} (h : Nd c) (n : Int) : Nd (scl n c) := by
  unfold Nd scl
  rw [List.map_map]; exact h
theorem val_scl (n : Int) (c : Ch) (k : Int) : val (scl n c) k = n * val c k := by
  induction c with
  | nil => show (0 : Int) = n * 0; rw [Int.mul_zero]
  | cons p c ih =>
    show val ((p.1, n * p.2) :: scl n c) k = _
    by_cases h : p.1 = k
    · rw [val_cons_pos (p := (p.1, n * p.2)) h, val_cons_pos h]
    · rw [val_cons_neg (p := (p.1, n * p.2)) h, val_cons_neg h, ih]
/-- added place by place -/
def addAll (one other : Ch) : Ch := other.foldl (fun a p => put a p.1 (val a p.1 + p.2)) one
theorem addAll_nd {one : Ch} (h : Nd one) (other : Ch) : Nd (addAll one other) := by
  unfold addAll
  induction other generalizing one with
  | nil => exact h
  | cons p c ih => exact ih (h.put _ _)
theorem val_addAll (one : Ch) {other : Ch} (h : Nd other) (k : Int) : val (addAll one other) k = val one k + val other k := by
  unfold addAll
  induction other generalizing one with
  | nil => show val one k = val one k + 0; omega
  | cons p c ih =>
    obtain ⟨h1, h2⟩ := h.tail
    rw [List.foldl_cons, ih _ h1, val_put]
    by_cases e : p.1 = k
    · rw [if_pos e.symm, val_cons_pos e, val_none fun q hq z => h2 q hq (z.trans e.symm), e]; omega
    · rw [if_neg fun z => e z.symm, val_cons_neg e]
/-! ### lists cut and joined -/
theorem lst_to {α : Type} (e : α → D) (xs : List α) (n : Nat) : slF false (.lst (xs.map e)) none (some (n : Int)) = some (.ok (.lst ((xs.take n).map e))) := by
  simp only [slF, cutD_to, ← List.map_take, Bool.not_false, Bool.true_or, if_true]
theorem lst_from {α : Type} (e : α → D) (xs : List α) (n : Nat) : slF false (.lst (xs.map e)) (some (n : Int)) none = some (.ok (.lst ((xs.drop n).map e))) := by
  simp only [slF, cutD_from, ← List.map_drop, Bool.not_false, Bool.true_or, if_true]
theorem lst_add {α : Type} {e : α → D} (h : ∀ a, immD (e a) = true) (im : Bool) (xs ys : List α) (hl : xs.length + ys.length ≤ sizeLine) : addF im (.lst (xs.map e)) (.lst (ys.map e)) = some (.ok (.lst ((xs ++ ys).map e))) := by
  have i : immL (xs.map e ++ ys.map e) = true := by rw [← List.map_append]; exact immL_map h _
  simp only [addF, List.length_map, if_pos hl, i, Bool.or_true, if_true, List.map_append]
theorem pieceE_in (neg : Bool) (k : Nat) (p : List Nat) : inAF neg (.int (k : Int)) (pieceE p) = some (.ok (.bl (if neg then !decide (k ∈ p) else decide (k ∈ p)))) := by
  have e : pieceE p = .tup ((p.map fun n : Nat => (n : Int)).map .int) := by unfold pieceE natE; rw [List.map_map]; rfl
  have h := inAF_intsT neg (k : Int) (p.map fun n : Nat => (n : Int))
  rw [e, h]
  have : (((k : Int) ∈ p.map fun n : Nat => (n : Int)) ↔ k ∈ p) := by
    rw [List.mem_map]
    constructor
    · rintro ⟨a, ha, e⟩
      have : a = k := by omega
      exact this ▸ ha
    · exact fun h => ⟨k, h, rfl⟩
  have d : decide ((k : Int) ∈ p.map fun n : Nat => (n : Int)) = decide (k ∈ p) := decide_eq_decide.mpr this
  rw [d]
/-- two neighbours changed -/
def swp (at_ f : Nat) : Nat := if f = at_ then at_ + 1 else if f = at_ + 1 then at_ else f
def swapAt {α : Type} [Inhabited α] (l : List α) (at_ : Nat) : List α := l.take at_ ++ [l.getD (at_ + 1) default, l.getD at_ default] ++ l.drop (at_ + 2)
theorem swapAt_len {α : Type} [Inhabited α] (l : List α) (at_ : Nat) (h : at_ + 1 < l.length) : (swapAt l at_).length = l.length := by
  unfold swapAt
  simp
  omega
theorem swapAt_mem {α : Type} [Inhabited α] {l : List α} {at_ : Nat} (h : at_ + 1 < l.length) {x : α} (hx : x ∈ swapAt l at_) : x ∈ l := by
  unfold swapAt at hx
  rcases List.mem_append.mp hx with hx | hx
  · rcases List.mem_append.mp hx with hx | hx
    · exact List.mem_of_mem_take hx
    · rw [List.getD_eq_getElem?_getD, List.getD_eq_getElem?_getD, List.getElem?_eq_getElem h, List.getElem?_eq_getElem (by omega)] at hx
      simp at hx
      rcases hx with rfl | rfl
      · exact List.getElem_mem _
      · exact List.getElem_mem _
  · exact List.mem_of_mem_drop hx
theorem swp_lt {at_ f n : Nat} (h : at_ + 1 < n) (hf : f < n) : swp at_ f < n := by unfold swp; split <;> (try split) <;> omega
theorem lk_swp (at_ f : Nat) : (lk [((at_ : Int), (at_ : Int) + 1), ((at_ : Int) + 1, (at_ : Int))] (f : Int)).getD (f : Int) = (swp at_ f : Nat) := by
  unfold swp
  by_cases h1 : f = at_
  · rw [lk_pos (by show ((at_ : Nat) : Int) = f; omega), if_pos h1]; simp
  · rw [lk_neg (by show ¬ ((at_ : Nat) : Int) = f; omega), if_neg h1]
    by_cases h2 : f = at_ + 1
    · rw [lk_pos (by show ((at_ : Nat) : Int) + 1 = f; omega), if_pos h2]; rfl
    · rw [lk_neg (by show ¬ ((at_ : Nat) : Int) + 1 = f; omega), if_neg h2]; rfl
end DL
set_option maxRecDepth 100000
namespace DL
open PySem PySem.Spec PyProof.Rows L2
theorem clr_f (a : XP) (env : EnvD) : (XS.clr a).f env = bPS (a.f env) env fun path => if isLstD (atP env a.i path) then chg env a.i path clrF else none := (rfl)
/-- an item of a tuple in a slot made empty -/
theorem clr_ix {i : Nat} {b : XE} {env : EnvD} {ds : List D} {j : Nat} {es : List D} (h1 : eget env i = some (.ok (.tup ds))) (h2 : b.f env = some (.ok (.int (j : Int)))) (h3 : ds[j]? = some (.lst es)) :
    (XS.clr (.ix (.s i) b)).f env = some (.nx (env.set i (some (.tup (ds.set j (.lst [])))))) := by
  have hj : j < ds.length := (List.getElem?_eq_some_iff.mp h3).1
  have p : (XP.ix (.s i) b).f env = some (.ok [j]) := by
    rw [pix_f, h2]
    show ixP env i [] (.int (j : Int)) = _
    unfold ixP
    rw [h1]
    simp [getP, lenSeq, ixN, hj]
  rw [clr_f, p, bPS_ok, pix_i, ps_i]
  have a : atP env i [j] = some (.lst es) := by
    unfold atP
    rw [h1]
    simp [getP, h3]
  rw [a]
  simp only [isLstD, if_true]
  unfold chg
  rw [h1]
  simp [getP, h3, clrF, setP]
end DL
set_option maxRecDepth 100000
namespace DL
open PySem PySem.Spec PyProof.Rows L2
theorem forkp_f (en : Bool) (i : Nat) (g : XG) (body : XS) (hk : ∀ p, KeepS i (body.t p)) (l : List Nat) (env : EnvD) : (XS.forkp en i g body hk l).f env = match eget env i with
    | some (.ok (.lst ds)) => if immL ds then (forD g.f body.f l (itemsK en ds) env).map (backO i (.lst ds)) else none
    | _ => none := (rfl)
theorem forkp_lst {en : Bool} {i : Nat} {g : XG} {body : XS} {hk : ∀ p, KeepS i (body.t p)} {l : List Nat} {env env' : EnvD} {ds : List D} (h : eget env i = some (.ok (.lst ds))) (im : immL ds = true) (r : forD g.f body.f l (itemsK en ds) env = some (.nx env')) :
    (XS.forkp en i g body hk l).f env = some (.nx (env'.set i (some (.lst ds)))) := by
  rw [forkp_f, h]
  show (if immL ds = true then _ else none) = _
  rw [if_pos im, r]; rfl
theorem take2_f {i : Nat} {as : XA} {env : EnvD} {x y : D} (h : eget env i = some (.ok (.tup [x, y]))) : (XA.take2 i as).f env = bA (some (.ok x)) (bA (some (.ok y)) (as.f env)) := by
  show (match eget env i with
    | some (.ok (.tup [x, y])) => bA (some (.ok x)) (bA (some (.ok y)) (as.f env))
    | _ => none) = _
  rw [h]
/-- a while by its states -/
def itW {α : Type} (go : α → Bool) (step : α → α) : Nat → α → α
  | 0, s => s
  | f + 1, s => if go s = true then itW go step f (step s) else s
theorem whlD_it {α : Type} {c : EnvD → Option (R D)} {body : EnvD → Option Out} {l : List Nat} (φ : α → EnvD) (go : α → Bool) (step : α → α) (I : α → Prop) (μ : α → Nat)
    (hc : ∀ s, I s → c (φ s) = some (.ok (.bl (go s)))) (hb : ∀ s, I s → go s = true → (∃ e2, body (φ s) = some (.nx e2) ∧ killE l e2 = φ (step s)) ∧ I (step s) ∧ μ (step s) < μ s) :
    ∀ (f : Nat) (s : α), I s → μ s < f → whlD c body l f (φ s) = some (.nx (φ (itW go step f s))) ∧ I (itW go step f s) ∧ go (itW go step f s) = false
  | 0, s, _, h => by omega
  | f + 1, s, hI, h => by
    rw [whlD, hc s hI, itW]
    cases q : go s with
    | false =>
      rw [if_neg Bool.false_ne_true]
      exact ⟨rfl, hI, q⟩
    | true =>
      rw [if_pos rfl]
      obtain ⟨⟨e2, h1, h2⟩, h3, h4⟩ := hb s hI q
      have ih := whlD_it φ go step I μ hc hb f (step s) h3 (by omega)
      refine ⟨?_, ih.2⟩
      show loopK (body (φ s)) _ l = _
      rw [h1]
      show whlD c body l f (killE l e2) = _
      rw [h2]; exact ih.1
end DL
set_option maxRecDepth 100000
namespace DL
open PySem PySem.Spec PyProof.Rows L2
theorem augs_at {o : IOp} {i : Nat} {b e : XE} {env : EnvD} {ds : List D} {j : Nat} {x y : Int} {z : D} (h1 : eget env i = some (.ok (.lst ds))) (h2 : b.f env = some (.ok (.int (j : Int)))) (h3 : ds[j]? = some (.int x)) (h4 : e.f env = some (.ok (.int y))) (h5 : o.g x y = some z) :
    (XS.augs o (.s i) b e).f env = some (.nx (env.set i (some (.lst (ds.set j z))))) := by
  have hj : j < ds.length := (List.getElem?_eq_some_iff.mp h3).1
  show (bPS (some (.ok [])) env fun path => bS (b.f env) env fun k => match itemAt env i path k with
    | some x => bS (e.f env) env fun y => augF o x y fun z => chg env i path (setF z k)
    | none => none) = _
  rw [bPS_ok, h2, bS_ok]
  have a : itemAt env i [] (.int (j : Int)) = some (.int x) := by
    unfold itemAt atP
    rw [h1]
    simp only [getP]
    show atI ds (j : Int) = _
    rw [atI_nat' hj]; exact h3
  rw [a]
  show (bS (e.f env) env fun y => augF o (.int x) y fun z => chg env i [] (setF z (.int (j : Int)))) = _
  rw [h4, bS_ok]
  unfold augF
  show (match (o.g x y).map R.ok with
    | some (.ok z) => chg env i [] (setF z (.int (j : Int)))
    | _ => none) = _
  rw [h5]
  show chg env i [] (setF z (.int (j : Int))) = _
  rw [chg_s, h1]
  simp [setF, ixN, hj]
theorem tryas_f (Ds : List Str) (hc : Str) (body : XS) (i j : Nat) (res : Nat → D) (env : EnvD) : (XS.tryas Ds hc body i j res).f env = bTry Ds hc i j res (body.f env) := (rfl)
@[simp] theorem rse_f (n : Nat) (env : EnvD) : (XS.rse n).f env = some (.ex n .non env) := (rfl)
theorem tryas_nx {Ds : List Str} {hc : Str} {body : XS} {i j : Nat} {res : Nat → D} {env e1 : EnvD} (h : body.f env = some (.nx e1)) : (XS.tryas Ds hc body i j res).f env = some (.nx e1) := by rw [tryas_f, h]; rfl
theorem tryas_ex {Ds : List Str} {hc : Str} {body : XS} {i j n : Nat} {res : Nat → D} {env e1 : EnvD} (h : body.f env = some (.ex n .non e1)) (hn : n < Ds.length) (hx : xIs (Ds.getD n "") hc = true) : (XS.tryas Ds hc body i j res).f env = some (.nx (((e1.set i none).set j (some (res n))).set i none)) := by
  rw [tryas_f, h]
  show (if n < Ds.length then _ else _) = _
  rw [if_pos hn, if_pos hx]
theorem lc_of {own : List Nat} {it : XI} {g : XG} {c : XT} {e : XE} {env : EnvD} {ds rs : List D} (h1 : it.f env = some (.ok ds)) (h2 : compD g.f c.f e.f (wipeE env own) ds [] = some rs) : (XE.lc own it g c e).f env = some (.ok (.lst rs)) := by
  rw [lc_f, h1]
  show (compD g.f c.f e.f (wipeE env own) ds []).map (fun ds => R.ok (D.lst ds)) = _
  rw [h2]; rfl
end DL
set_option maxRecDepth 100000
namespace DL
open PySem PySem.Spec PyProof.Rows L2
@[simp] theorem sortd_f (as : XA) (env : EnvD) : (XE.sortd as).f env = bL (as.f env) sortDF := (rfl)
/-- an item put at the end of a list that stands in a tuple in a slot -/
theorem app_ti {i : Nat} {b e : XE} {env : EnvD} {ds : List D} {j : Nat} {es : List D} {x : D} (h1 : eget env i = some (.ok (.tup ds))) (h2 : b.f env = some (.ok (.int (j : Int)))) (h3 : ds[j]? = some (.lst es)) (h4 : e.f env = some (.ok x)) (h5 : es.length < sizeLine) :
    (XS.app (.ix (.s i) b) e).f env = some (.nx (env.set i (some (.tup (ds.set j (.lst (es ++ [x]))))))) := by
  have hj : j < ds.length := (List.getElem?_eq_some_iff.mp h3).1
  have p : (XP.ix (.s i) b).f env = some (.ok [j]) := by
    rw [pix_f, h2]
    show ixP env i [] (.int (j : Int)) = _
    unfold ixP
    rw [h1]
    simp [getP, lenSeq, ixN, hj]
  rw [app_f, p, bPS_ok, pix_i, ps_i]
  have a : atP env i [j] = some (.lst es) := by
    unfold atP
    rw [h1]
    simp [getP, h3]
  rw [a]
  simp only [isLstD, if_true]
  rw [h4, bS_ok]
  unfold chg
  rw [h1]
  simp [getP, h3, appF, h5, setP]
end DL
set_option maxRecDepth 100000
namespace DL
open PySem PySem.Spec PyProof.Rows L2
@[simp] theorem take_f (i : Nat) (b : XE) (env : EnvD) : (XE.take i b).f env = b2 (eget env i) (b.f env) takeF := (rfl)
@[simp] theorem takeF_tup (xs : List D) (i : Int) : takeF (.tup xs) (.int i) = (atI xs i).map .ok := (rfl)
end DL
set_option maxRecDepth 100000
namespace DL
open PySem PySem.Spec PyProof.Rows L2
theorem forapp_f (i j : Nat) (n : Int) (env : EnvD) : (XS.forapp i j n).f env = match eget env i with
    | some (.ok (.lst ds)) => if rowsOk ds then some (.nx ((env.set i (some (.lst (ds.map (rowAp n))))).set j none)) else none
    | _ => none := rfl
/-- rows of data, one put behind each -/
theorem forapp_lst {i j : Nat} {n : Int} {env : EnvD} {rs : List (List D)} (h : eget env i = some (.ok (.lst (rs.map .lst)))) (hl : ∀ r ∈ rs, r.length < sizeLine) :
    (XS.forapp i j n).f env = some (.nx ((env.set i (some (.lst (rs.map fun r => .lst (r ++ [.int n]))))).set j none)) := by
  rw [forapp_f, h]
  have ok : rowsOk (rs.map .lst) = true := by
    unfold rowsOk
    rw [List.all_eq_true]
    intro d hd
    obtain ⟨r, hr, rfl⟩ := List.mem_map.mp hd
    exact decide_eq_true (hl r hr)
  show (if rowsOk (rs.map .lst) then some (Out.nx ((env.set i (some (.lst ((rs.map D.lst).map (rowAp n))))).set j none)) else none) = _
  rw [if_pos ok, List.map_map]
  rfl
end DL
set_option maxRecDepth 100000
namespace DL
open PySem PySem.Spec PyProof.Rows L2
@[simp] theorem isb_f (n : Bool) (a b : XE) (env : EnvD) : (XE.isb n a b).f env = b2 (a.f env) (b.f env) (isbF n) := (rfl)
@[simp] theorem isbF_bl (n : Bool) (a b : Bool) : isbF n (.bl a) (.bl b) = some (.ok (.bl (if n then !decide (a = b) else decide (a = b)))) := (rfl)
@[simp] theorem eqe_f (a b : XE) (env : EnvD) : (XE.eqe a b).f env = b2 (a.f env) (b.f env) eqEF := (rfl)
theorem eqE_ch (c : Ch) : eqEF (chE c) (.dct []) = some (.ok (.bl (decide (c.length = 0)))) := by
  show some (R.ok (D.bl (decide ((kvE c).length = 0)))) = _
  rw [len_kv]
end DL
set_option maxRecDepth 100000
namespace DL
open PySem PySem.Spec PyProof.Rows L2
theorem popA_f (i j : Nat) (env : EnvD) : (XS.popA i j).f env = match eget env i with
    | some (.ok (.lst ds)) => match ds[ds.length - 1]? with
      | some x => if immD x then some (.nx ((env.set i (some (.lst ds.dropLast))).set j (some x))) else none
      | none => none
    | _ => none := rfl
theorem view_f (i j n : Nat) (bs : List Nat) (body : XS) (hk : ∀ p, KeepG i (body.t p)) (env : EnvD) : (XS.view i j n bs body hk).f env = match eget env i with
    | some (.ok d) => match itmD d n with
      | some d' => viewO env i j bs d (body.f (env.set j (some d')))
      | none => none
    | _ => none := rfl
/-- the last one taken -/
theorem pop_lst {α : Type} {i j : Nat} {env : EnvD} {e : α → D} (him : ∀ a, immD (e a) = true) {xs : List α} {x : α} (h : eget env i = some (.ok (.lst ((xs ++ [x]).map e)))) :
    (XS.popA i j).f env = some (.nx ((env.set i (some (.lst (xs.map e)))).set j (some (e x)))) := by
  rw [popA_f, h]
  have h1 : ((xs ++ [x]).map e)[((xs ++ [x]).map e).length - 1]? = some (e x) := by simp
  have h2 : ((xs ++ [x]).map e).dropLast = xs.map e := by simp
  simp only [h1, h2, him, if_true]
theorem view_nx {i j n : Nat} {bs : List Nat} {body : XS} {hk : ∀ p, KeepG i (body.t p)} {env e : EnvD} {d d' : D} (h1 : eget env i = some (.ok d)) (h2 : itmD d n = some d') (h3 : body.f (env.set j (some d')) = some (.nx e)) (h4 : immAt e bs = true) :
    (XS.view i j n bs body hk).f env = some (.nx ((e.set i (some d)).set j none)) := by
  rw [view_f, h1]
  simp only [h2, h3, viewO, h4, if_true]
end DL
set_option maxRecDepth 100000
namespace DL
open PySem PySem.Spec PyProof.Rows L2
@[simp] theorem izipT_f (as : XA) (env : EnvD) : (XI.zipT as).f env = bLI (as.f env) zipTF := (rfl)
end DL
set_option maxRecDepth 100000
namespace DL
open PySem PySem.Spec PyProof.Rows L2
/-! ### texts -/
def mkS (w : List Nat) : Str := ⟨w.toArray⟩
def sE (w : List Nat) : D := .str (mkS w)
theorem tl_mkS (w : List Nat) : TL.tl (mkS w) = w := rfl
theorem mkS_tl (x : Str) : mkS (TL.tl x) = x := TL.mk_tl x
theorem mkS_inj {a b : List Nat} : mkS a = mkS b ↔ a = b := ⟨fun h => by
  have := congrArg TL.tl h
  rwa [tl_mkS, tl_mkS] at this, fun h => by rw [h]⟩
theorem len_mkS (w : List Nat) : (mkS w).length = w.length := by rw [TL.len_tl, tl_mkS]
@[simp] theorem immD_sE (w : List Nat) : immD (sE w) = true := by unfold sE; rw [immD]
theorem immD_strE (w : Str) : immD (.str w) = true := by rw [immD]
theorem sE_add (im : Bool) (a b : List Nat) (h : a.length + b.length ≤ sizeLine) : addF im (sE a) (sE b) = some (.ok (sE (a ++ b))) := by
  have e : mkS a ++ mkS b = mkS (a ++ b) := TL.ext_tl (by rw [TL.tl_append, tl_mkS, tl_mkS, tl_mkS])
  unfold sE
  simp only [addF, len_mkS, if_pos h, e]
theorem sE_len (w : List Nat) (h : w.length ≤ sizeLine) : lenF [sE w] = some (.int (w.length : Int)) := by
  show (if (mkS w).length ≤ sizeLine then some (D.int (mkS w).length) else none) = _
  rw [len_mkS, if_pos h]
theorem sE_ix (w : List Nat) (n : Nat) (h : n < w.length) (hz : w.length ≤ sizeLine) : ixF (sE w) (.int (n : Int)) = some (.ok (sE [w.getD n 0])) := by
  show (if (mkS w).length ≤ sizeLine then (atI (mkS w).cps.toList (n : Int)).map fun c => (DL.R.ok (D.str ⟨#[c]⟩) : DL.R D) else none) = _
  have e : (mkS w).cps.toList = w := rfl
  rw [len_mkS, if_pos hz, e, atI_nat' h, List.getElem?_eq_getElem h]
  simp [sE, mkS, h]
theorem sE_nil : sE [] = .str "" := rfl
@[simp] theorem sgn_f (n : Bool) (a b : XE) (env : EnvD) : (XE.sgn n a b).f env = b2 (a.f env) (b.f env) (sgnF n) := (rfl)
theorem sgnF_one (n : Bool) (c : Nat) (z : List Nat) : sgnF n (sE [c]) (sE z) = some (.ok (.bl (if n then !decide (c ∈ z) else decide (c ∈ z)))) := rfl
@[simp] theorem txt_f (a : XE) (env : EnvD) : (XI.txt a).f env = bI (a.f env) txtF := (rfl)
theorem txtF_sE (w : List Nat) : txtF (sE w) = some (.ok (w.map fun c => sE [c])) := rfl
@[simp] theorem joinT_f (a b : XE) (env : EnvD) : (XE.joinT a b).f env = b1 (a.f env) fun x => if isStr1 x then b1 (b.f env) fun y => joinF x y else none := (rfl)
@[simp] theorem splitT_f (a b : XE) (env : EnvD) : (XE.splitT a b).f env = b1 (a.f env) fun x => if isStr1 x then b1 (b.f env) fun y => splitF x y else none := (rfl)
@[simp] theorem isStr1_str (s : Str) : isStr1 (.str s) = true := rfl
@[simp] theorem isStr1_sE (s : List Nat) : isStr1 (sE s) = true := rfl
/-- words joined -/
def jn (S : List Nat) (ws : List (List Nat)) : List Nat := TL.joinL S ws
theorem jn_nil (S : List Nat) : jn S [] = [] := rfl
theorem jn_one (S w : List Nat) : jn S [w] = w := rfl
theorem jn_cons (S w : List Nat) (ws : List (List Nat)) : jn S (w :: ws) = w ++ ws.flatMap (S ++ ·) := by
  induction ws generalizing w with
  | nil => simp [jn_one]
  | cons v ws ih =>
    have : jn S (w :: v :: ws) = w ++ (S ++ jn S (v :: ws)) := rfl
    rw [this, ih v, List.flatMap_cons, List.append_assoc]
theorem join_mkS (S : List Nat) (ws : List (List Nat)) : Txt.join (mkS S) (ws.map mkS) = mkS (jn S ws) := by
  apply TL.ext_tl
  rw [TL.join_eq, TL.tl_join, tl_mkS, tl_mkS, List.map_map]
  have : (TL.tl ∘ mkS) = id := rfl
  rw [this, List.map_id]
  rfl
theorem strs_sE (ws : List (List Nat)) : ws.map sE = (ws.map mkS).map D.str := by rw [List.map_map]; rfl
theorem joinF_sE (S : List Nat) (ws : List (List Nat)) (h : (ws.map (·.length)).sum + ws.length * S.length ≤ 16777216) : joinF (sE S) (.lst (ws.map sE)) = some (.ok (sE (jn S ws))) := by
  rw [strs_sE]
  show (match strsD ((ws.map mkS).map D.str) with
    | some ys => if (ys.map fun y : Str => y.length).sum + ys.length * (mkS S).length ≤ 16777216 then some (DL.R.ok (D.str (Txt.join (mkS S) ys))) else none
    | none => none) = _
  have e : ((ws.map mkS).map fun y : Str => y.length) = ws.map (·.length) := by
    rw [List.map_map]
    exact List.map_congr_left fun w _ => len_mkS w
  rw [strsD_map]
  simp only [e, List.length_map, len_mkS, if_pos h, join_mkS]
  rfl
theorem splitF_sE {s : Nat} {S : List Nat} (hk : ∀ c ∈ s :: S, c < 256) {ws : List (List Nat)} (hne : ws ≠ []) (hp : ∀ w ∈ ws, s ∉ w) (hz : (jn (s :: S) ws).length + 2 ≤ sizeLine) :
    splitF (sE (jn (s :: S) ws)) (sE (s :: S)) = some (.ok (.lst (ws.map sE))) := by
  have e := TL.split_join (y := mkS (s :: S)) (s := s) (S := S) rfl (by simpa [mkS] using hk) (parts := ws.map mkS) (by simpa using hne) (fun p hp' => by
    obtain ⟨w, hw, rfl⟩ := List.mem_map.mp hp'
    exact hp w hw)
  rw [join_mkS] at e
  show (if ((mkS (s :: S)).length == 0) = false ∧ (mkS (jn (s :: S) ws)).length + 2 ≤ sizeLine then some (DL.R.ok (D.lst ((Txt.split (mkS (jn (s :: S) ws)) (mkS (s :: S))).map D.str))) else none) = _
  rw [len_mkS, len_mkS, if_pos ⟨by simp, hz⟩, e, strs_sE]
theorem inV_strs (w : List Nat) (ws : List (List Nat)) : inV (atV (sE w)) ((ws.map sE).map atV) = decide (w ∈ ws) := by
  induction ws with
  | nil => rfl
  | cons x xs ih =>
    have e : eqV (atV (sE x)) (atV (sE w)) = decide (x = w) := by
      show (mkS x == mkS w) = _
      by_cases h : x = w
      · simp [h]
      · have : ¬ mkS x = mkS w := fun z => h (mkS_inj.mp z)
        simp [h, this]
    unfold inV at ih ⊢
    rw [List.map_cons, List.map_cons, List.any_cons, ih, e]
    by_cases h : x = w
    · simp [h]
    · have : ¬ w = x := fun z => h z.symm
      simp [h, this]
theorem flat_strs (ws : List (List Nat)) : (ws.map sE).all flatD = true := by
  rw [List.all_map]
  exact List.all_eq_true.mpr fun _ _ => rfl
theorem inAF_strs (neg : Bool) (w : List Nat) (ws : List (List Nat)) : inAF neg (sE w) (.lst (ws.map sE)) = some (.ok (.bl (if neg then !decide (w ∈ ws) else decide (w ∈ ws)))) := by
  unfold inAF inSF
  simp only [flat_strs, inV_strs]
  rfl
theorem immL_strs (ws : List (List Nat)) : immL (ws.map sE) = true := immL_map immD_sE ws
/-! ### a dict by words -/
def wkE (ks : List (List Nat × Nat)) : D := .dct (ks.map fun k => (.inr (mkS k.1), natE k.2))
def wFind (ks : List (List Nat × Nat)) (w : List Nat) : Option Nat := (ks.find? fun k => decide (k.1 = w)).map (·.2)
theorem keyD_sE (w : List Nat) : keyD (sE w) = some (.inr (mkS w)) := rfl
theorem valD_wk (w : List Nat) : ∀ ks : List (List Nat × Nat), valD (ks.map fun k => (.inr (mkS k.1), natE k.2)) (.inr (mkS w)) = (wFind ks w).map natE
  | [] => rfl
  | k :: ks => by
    have ih := valD_wk w ks
    unfold valD wFind at ih ⊢
    rw [List.map_cons, List.find?_cons, List.find?_cons]
    by_cases h : k.1 = w
    · have h1 : ((Sum.inr (mkS k.1) : Key) = Sum.inr (mkS w)) := by rw [h]
      simp [h]
    · have h1 : ¬ ((Sum.inr (mkS k.1) : Key) = Sum.inr (mkS w)) := fun z => h (mkS_inj.mp (Sum.inr.inj z))
      simp only [h, h1, decide_false]
      exact ih
theorem dinF_wk (n : Bool) (w : List Nat) (ks : List (List Nat × Nat)) : dinF n (sE w) (wkE ks) = some (.ok (.bl (if n then !(wFind ks w).isSome else (wFind ks w).isSome))) := by
  show (keyD (sE w)).map (fun k => (DL.R.ok (D.bl (if n then !(valD (ks.map fun k => (.inr (mkS k.1), natE k.2)) k).isSome else (valD (ks.map fun k => (.inr (mkS k.1), natE k.2)) k).isSome)) : DL.R D)) = _
  rw [keyD_sE, Option.map_some, valD_wk, Option.isSome_map]
theorem dixF_wk {w : List Nat} {ks : List (List Nat × Nat)} {n : Nat} (h : wFind ks w = some n) : dixF (wkE ks) (sE w) = some (.ok (natE n)) := by
  show (keyD (sE w)).bind (fun k => (valD (ks.map fun k => (.inr (mkS k.1), natE k.2)) k).map (DL.R.ok : D → DL.R D)) = _
  rw [keyD_sE, Option.bind_some, valD_wk, h]; rfl
theorem putF_wk {w : List Nat} {ks : List (List Nat × Nat)} (n : Nat) (h : wFind ks w = none) (hz : ks.length < sizeLine) : putF (natE n) (sE w) (wkE ks) = some (wkE (ks ++ [(w, n)])) := by
  show ((keyD (sE w)).bind fun k => (putDF (ks.map fun k => (.inr (mkS k.1), natE k.2)) k (natE n)).map D.dct) = _
  rw [keyD_sE, Option.bind_some]
  unfold putDF
  rw [List.length_map, if_pos hz, valD_wk, h]
  simp [wkE]
end DL
set_option maxRecDepth 100000
namespace DL
open PySem PySem.Spec PyProof.Rows L2
@[simp] theorem eqs_f (a b : XE) (env : EnvD) : (XE.eqs a b).f env = b2 (a.f env) (b.f env) eqsF := (rfl)
@[simp] theorem eqsF_str (a b : Str) : eqsF (.str a) (.str b) = some (.ok (.bl (decide (a = b)))) := (rfl)
@[simp] theorem repr_g : BI.repr.g = reprF := (rfl)
@[simp] theorem setcp_f (j : Nat) (as : XA) (e b : XE) (env : EnvD) : (XS.setcp j as e b).f env = match as.f env with
    | some (.ok [.lst ds]) => cp2 env (e.f (env.set j none)) (b.f (env.set j none)) (cpF (env.set j none) j ds)
    | _ => none := (rfl)
/-! ### texts of data: how long -/
def Small (d : D) (k n : Nat) : Prop := ∃ pd, toPz d = some pd ∧ pd.showable = true ∧ pd.leavesShort 300 = true ∧ pd.depth ≤ k ∧ pd.bulk ≤ n
theorem Small.mono {d : D} {k n k' n' : Nat} (h : Small d k n) (hk : k ≤ k') (hn : n ≤ n') : Small d k' n' :=
  let ⟨pd, a, b, c, e, f⟩ := h; ⟨pd, a, b, c, Nat.le_trans e hk, Nat.le_trans f hn⟩
theorem small_non : Small .non 0 0 := ⟨.none, rfl, rfl, rfl, Nat.le_refl _, Nat.le_refl _⟩
theorem small_bl (b : Bool) : Small (.bl b) 0 0 := ⟨.bool b, rfl, rfl, rfl, Nat.le_refl _, Nat.le_refl _⟩
theorem small_int {i : Int} (h : BitsLe 200 i) : Small (.int i) 0 0 := by
  have hl : i.natAbs.log2 < 200 := log2_lt h (by decide)
  refine ⟨.int i, rfl, ?_, ?_, Nat.le_refl _, Nat.le_refl _⟩
  · rw [PyData.showable]; exact decide_eq_true (by omega)
  · rw [PyData.leavesShort]
    refine decide_eq_true ?_
    have h2 := int_text_length_le (k := 200) (by decide) hl
    have e : (Str.ofString (toString i)).length ≤ 201 := by
      rw [Str.ofString_eq_toList]
      show ((toString i).toList.map Char.toNat).toArray.size ≤ _
      have e1 : ((toString i).toList.map Char.toNat).toArray.size = (toString i).length := by
        rw [List.size_toArray, List.length_map]; exact String.length_toList
      rw [e1]; exact h2
    exact Nat.le_trans e (by decide)
theorem small_str {s : Str} {n : Nat} (h : s.cps.toList.all (fun c => decide (c < 16 ^ 8)) = true) (hn : s.cps.size ≤ n) : Small (.str s) 0 n := by
  refine ⟨.str s, rfl, rfl, ?_, Nat.le_refl _, ?_⟩
  · rw [PyData.leavesShort]; exact h
  · rw [PyData.bulk]; exact hn
theorem small_all {k n : Nat} : ∀ {xs : List D}, (∀ x ∈ xs, Small x k n) → ∃ ps, toPzs xs = some ps ∧ PyData.showableAll ps = true ∧ PyData.leavesShortAll 300 ps = true ∧ PyData.depthAll ps ≤ k ∧ PyData.bulkAll ps ≤ (n + 1) * xs.length
  | [], _ => ⟨[], rfl, rfl, rfl, Nat.zero_le _, Nat.zero_le _⟩
  | x :: xs, h => by
    obtain ⟨pd, a, b, c, e, f⟩ := h x List.mem_cons_self
    obtain ⟨ps, a2, b2, c2, e2, f2⟩ := small_all fun y hy => h y (List.mem_cons_of_mem _ hy)
    refine ⟨pd :: ps, by rw [toPzs, a, a2], by rw [PyData.showableAll, b, b2]; rfl, by rw [PyData.leavesShortAll, c, c2]; rfl, by rw [PyData.depthAll]; exact Nat.max_le.mpr ⟨e, e2⟩, ?_⟩
    rw [PyData.bulkAll, List.length_cons, Nat.mul_succ]
    omega
theorem small_lst {k n m : Nat} {xs : List D} (h : ∀ x ∈ xs, Small x k n) (hm : (n + 1) * xs.length ≤ m) : Small (.lst xs) (k + 1) m := by
  obtain ⟨ps, a, b, c, e, f⟩ := small_all h
  exact ⟨.list ps, by rw [toPz, a]; rfl, by rw [PyData.showable]; exact b, by rw [PyData.leavesShort]; exact c, by rw [PyData.depth]; omega, by rw [PyData.bulk]; omega⟩
theorem small_tup {k n m : Nat} {xs : List D} (h : ∀ x ∈ xs, Small x k n) (hm : (n + 1) * xs.length ≤ m) : Small (.tup xs) (k + 1) m := by
  obtain ⟨ps, a, b, c, e, f⟩ := small_all h
  exact ⟨.tuple ps, by rw [toPz, a]; rfl, by rw [PyData.showable]; exact b, by rw [PyData.leavesShort]; exact c, by rw [PyData.depth]; omega, by rw [PyData.bulk]; omega⟩
theorem small_dct : Small (.dct []) 1 0 := ⟨.dict [], rfl, rfl, rfl, Nat.le_refl _, Nat.le_refl _⟩
theorem Small.repr {d : D} (h : Small d 10 50000) : ∃ s, reprF [d] = some (.str s) := by
  obtain ⟨pd, a, b, c, e, f⟩ := h
  have l := PyData.shown_le_bulk 300 (by decide) pd c
  have z : pd.shown.length ≤ sizeLine := by rw [szl]; omega
  refine ⟨pd.shown, ?_⟩
  show (match toPz d with
    | some p => if p.showable && decide (p.depth ≤ 64) && decide (p.shown.length ≤ sizeLine) then some (D.str p.shown) else none
    | none => none) = _
  rw [a]
  have e64 : pd.depth ≤ 64 := by omega
  simp only [b, e64, z, decide_true, Bool.and_self, if_true]
end DL
set_option maxRecDepth 100000
namespace DL
open PySem PySem.Spec PyProof.Rows L2
@[simp] theorem rsi_f (n : Nat) (f : Str) (e : XE) (env : EnvD) : (XS.rsi n f e).f env = fldF f n env (e.f env) := (rfl)
theorem trym_f (Ds : List Str) (hs : List (Str × Res)) (body : XS) (i j : Nat) (env : EnvD) : (XS.trym Ds hs body i j).f env = bTryM Ds hs i j (body.f env) := (rfl)
theorem trym_nx {Ds : List Str} {hs : List (Str × Res)} {body : XS} {i j : Nat} {env e1 : EnvD} (h : body.f env = some (.nx e1)) : (XS.trym Ds hs body i j).f env = some (.nx e1) := by rw [trym_f, h]; rfl
theorem trym_ex {Ds : List Str} {hs : List (Str × Res)} {body : XS} {i j n : Nat} {pl dv : D} {env e1 : EnvD} {res : Res} (h : body.f env = some (.ex n pl e1)) (hn : n < Ds.length) (hx : pickH (Ds.getD n "") hs = some res) (hr : res n pl = some dv) : (XS.trym Ds hs body i j).f env = some (.nx (((e1.set i none).set j (some dv)).set i none)) := by
  rw [trym_f, h]
  unfold bTryM
  dsimp only
  rw [if_pos hn, hx]
  dsimp only
  rw [hr]
end DL
set_option maxRecDepth 100000
namespace DL
open PySem PySem.Spec PyProof.Rows L2
/-! ### a for whose turns are known, until one ends it -/
def foldO {α β : Type} (step : β → α → Option β) : β → List α → Option β
  | s, [] => some s
  | s, x :: xs => (step s x).bind fun s' => foldO step s' xs
def Ender : Out → Prop
  | .rt _ => True
  | .ex _ _ _ => True
  | _ => False
theorem forD_out {α β : Type} {bind : D → EnvD → Option EnvD} {body : EnvD → Option Out} {l : List Nat} (φ : β → EnvD) (ψ : α → D) (step : β → α → Option β) (bad : Out → Prop) (hb : ∀ o, bad o → Ender o) (I : List α → β → Prop) :
    ∀ (xs : List α) (s : β), I xs s → (∀ x xs s, I (x :: xs) s → ∃ e1, bind (ψ x) (φ s) = some e1 ∧ ((∃ s', step s x = some s' ∧ I xs s' ∧ ∃ e2, (body e1 = some (.nx e2) ∨ body e1 = some (.ct e2)) ∧ killE l e2 = φ s') ∨ (step s x = none ∧ ∃ o, body e1 = some o ∧ bad o))) →
      (∃ s', foldO step s xs = some s' ∧ I [] s' ∧ forD bind body l (xs.map ψ) (φ s) = some (.nx (φ s'))) ∨ (foldO step s xs = none ∧ ∃ o, forD bind body l (xs.map ψ) (φ s) = some o ∧ bad o)
  | [], s, h, _ => .inl ⟨s, rfl, h, rfl⟩
  | x :: xs, s, h, H => by
    obtain ⟨e1, h1, h2⟩ := H x xs s h
    rw [List.map_cons, forD, h1]
    rcases h2 with ⟨s', hs, hI, e2, hbody, hk⟩ | ⟨hs, o, hbody, ho⟩
    · have ih := forD_out φ ψ step bad hb I xs s' hI H
      have ef : foldO step s (x :: xs) = foldO step s' xs := by rw [foldO, hs]; rfl
      rw [ef]
      have el : loopK (body e1) (fun e => forD bind body l (xs.map ψ) e) l = forD bind body l (xs.map ψ) (φ s') := by
        rcases hbody with hbody | hbody
        · rw [hbody]; show forD bind body l (xs.map ψ) (killE l e2) = _; rw [hk]
        · rw [hbody]; show forD bind body l (xs.map ψ) (killE l e2) = _; rw [hk]
      show _ ∨ (_ ∧ ∃ o, loopK (body e1) (fun e => forD bind body l (xs.map ψ) e) l = some o ∧ bad o)
      show (∃ s', _ ∧ _ ∧ loopK (body e1) (fun e => forD bind body l (xs.map ψ) e) l = _) ∨ _
      rw [el]
      exact ih
    · refine .inr ⟨by rw [foldO, hs]; rfl, o, ?_, ho⟩
      show loopK (body e1) _ l = some o
      rw [hbody]
      have := hb o ho
      cases o with
      | rt d => rfl
      | ex c p e => rfl
      | nx _ => exact this.elim
      | bk _ => exact this.elim
      | ct _ => exact this.elim
theorem foldO_push {α β : Type} (q : α → Bool) (f : α → β) : ∀ (xs : List α) (acc : List β), foldO (fun acc x => if q x = true then some (acc ++ [f x]) else none) acc xs = if xs.all q = true then some (acc ++ xs.map f) else none
  | [], acc => by simp [foldO]
  | x :: xs, acc => by
    rw [foldO, List.all_cons]
    cases h : q x with
    | true =>
      rw [if_pos rfl, Option.bind_some, foldO_push q f xs, Bool.true_and, List.map_cons, List.append_assoc, List.singleton_append]
    | false => simp
/-! ### texts cut, in general -/
theorem spl_spec (S : List Nat) : ∀ (l : List Nat) (k : Nat) (acc : List Nat), TL.spl S k acc l ≠ [] ∧ (TL.spl S k acc l).length ≤ l.length + 1 ∧ ∀ p ∈ TL.spl S k acc l, p.length ≤ acc.length + l.length ∧ ∀ c ∈ p, c ∈ acc ∨ c ∈ l
  | [], k, acc => by
    rw [TL.spl_nil]
    exact ⟨by simp, by simp, fun p hp => by rw [List.mem_singleton.mp hp]; exact ⟨by simp, fun c hc => .inl hc⟩⟩
  | c :: r, 0, acc => by
    cases h : TL.pre S (c :: r) with
    | true =>
      rw [TL.spl_hit h]
      obtain ⟨_, h2, h3⟩ := spl_spec S r (S.length - 1) []
      refine ⟨by simp, by simpa using h2, fun p hp => ?_⟩
      rcases List.mem_cons.mp hp with rfl | hp
      · exact ⟨by simp, fun c hc => .inl hc⟩
      · obtain ⟨a, b⟩ := h3 p hp
        refine ⟨by simp at a ⊢; omega, fun c hc => .inr ?_⟩
        rcases b c hc with z | z
        · cases z
        · exact List.mem_cons_of_mem _ z
    | false =>
      rw [TL.spl_miss h]
      obtain ⟨h1, h2, h3⟩ := spl_spec S r 0 (acc ++ [c])
      refine ⟨h1, by simp at h2 ⊢; omega, fun p hp => ?_⟩
      obtain ⟨a, b⟩ := h3 p hp
      refine ⟨by simp at a ⊢; omega, fun x hx => ?_⟩
      rcases b x hx with z | z
      · rcases List.mem_append.mp z with z | z
        · exact .inl z
        · exact .inr (by rw [List.mem_singleton.mp z]; exact List.mem_cons_self)
      · exact .inr (List.mem_cons_of_mem _ z)
  | c :: r, k + 1, acc => by
    obtain ⟨h1, h2, h3⟩ := spl_spec S r k acc
    have e : TL.spl S (k + 1) acc (c :: r) = TL.spl S k acc r := rfl
    rw [e]
    refine ⟨h1, by simp; omega, fun p hp => ?_⟩
    obtain ⟨a, b⟩ := h3 p hp
    refine ⟨by simp; omega, fun x hx => ?_⟩
    rcases b x hx with z | z
    · exact .inl z
    · exact .inr (List.mem_cons_of_mem _ z)
def splitW (S w : List Nat) : List (List Nat) := TL.spl S 0 [] w
theorem splitW_ne (S w : List Nat) : splitW S w ≠ [] := (spl_spec S w 0 []).1
theorem splitW_len (S w : List Nat) : (splitW S w).length ≤ w.length + 1 := (spl_spec S w 0 []).2.1
theorem splitW_le {S w p : List Nat} (h : p ∈ splitW S w) : p.length ≤ w.length := by have := ((spl_spec S w 0 []).2.2 p h).1; simpa using this
theorem splitW_mem {S w p : List Nat} (h : p ∈ splitW S w) {c : Nat} (hc : c ∈ p) : c ∈ w := by
  rcases ((spl_spec S w 0 []).2.2 p h).2 c hc with z | z
  · cases z
  · exact z
theorem splitF_gen {S w : List Nat} (hS : S ≠ []) (hk : ∀ c ∈ S, c < 256) (hz : w.length + 2 ≤ sizeLine) : splitF (sE w) (sE S) = some (.ok (.lst ((splitW S w).map sE))) := by
  have h256 : (mkS S).cps.all (fun x => decide (x < 256)) = true := by
    rw [← Array.all_toList]
    exact List.all_eq_true.mpr fun c hc => decide_eq_true (hk c hc)
  have e : Txt.split (mkS w) (mkS S) = (splitW S w).map mkS := by
    refine TL.map_tl_inj ?_
    rw [TL.split_spl (mkS w) (mkS S) hS (TL.kind_ok h256), List.map_map]
    have : (TL.tl ∘ mkS) = id := rfl
    rw [this, List.map_id]; rfl
  show (if ((mkS S).length == 0) = false ∧ (mkS w).length + 2 ≤ sizeLine then some (DL.R.ok (D.lst ((Txt.split (mkS w) (mkS S)).map D.str))) else none) = _
  have hS' : (S.length == 0) = false := by
    cases S with
    | nil => exact absurd rfl hS
    | cons _ _ => rfl
  rw [len_mkS, len_mkS, if_pos ⟨hS', hz⟩, e, strs_sE]
/-- any cut of a text -/
theorem slF_text (im : Bool) (w : List Nat) (lo hi : Option Int) (hz : w.length ≤ sizeLine) : ∃ u, slF im (sE w) lo hi = some (.ok (sE u)) ∧ u.length ≤ w.length ∧ ∀ c ∈ u, c ∈ w := by
  refine ⟨(w.drop (HT.sIx w.length 0 lo)).take (HT.sIx w.length w.length hi - HT.sIx w.length 0 lo), ?_, ?_, fun c hc => List.mem_of_mem_drop (List.mem_of_mem_take hc)⟩
  · show (if (mkS w).length ≤ sizeLine then some (DL.R.ok (D.str (cutS (mkS w) lo hi))) else none) = _
    rw [len_mkS, if_pos hz]
    have : cutS (mkS w) lo hi = mkS ((w.drop (HT.sIx w.length 0 lo)).take (HT.sIx w.length w.length hi - HT.sIx w.length 0 lo)) := by
      unfold cutS
      rw [len_mkS]; rfl
    rw [this]; rfl
  · rw [List.length_take, List.length_drop]; omega
/-! ### texts in lists -/
def Low (w : List Nat) : Prop := ∀ c ∈ w, c < 256
theorem str_ok {w : List Nat} (h : Low w) : (PyData.str (mkS w)).canLay0 = true := by
  show (mkS w).cps.all (fun x => decide (x < 0x110000)) = true
  rw [← Array.all_toList]
  exact List.all_eq_true.mpr fun c hc => decide_eq_true (by have := h c hc; omega)
theorem eqv_str (a b : List Nat) : PyData.eqv (.str (mkS a)) (.str (mkS b)) = decide (a = b) := by
  show (mkS a == mkS b) = _
  by_cases h : a = b
  · simp [h]
  · have : ¬ mkS a = mkS b := fun z => h (mkS_inj.mp z)
    simp [h, this]
theorem canLays_str : ∀ {ws : List (List Nat)}, (∀ w ∈ ws, Low w) → PyData.canLayAll0 (ws.map fun w => .str (mkS w)) = true
  | [], _ => rfl
  | w :: ws, h => by
    show ((PyData.str (mkS w)).canLay0 && PyData.canLayAll0 (ws.map fun w => .str (mkS w))) = true
    rw [str_ok (h w List.mem_cons_self), canLays_str fun x hx => h x (List.mem_cons_of_mem _ hx)]; rfl
theorem depth_strs : ∀ ws : List (List Nat), PyData.depthAll (ws.map fun w => .str (mkS w)) ≤ 0
  | [] => Nat.le_refl _
  | w :: ws => Nat.max_le.mpr ⟨Nat.le_refl _, depth_strs ws⟩
theorem findIdx_map {α β : Type} (f : α → β) (p : β → Bool) : ∀ xs : List α, (xs.map f).findIdx? p = xs.findIdx? fun x => p (f x)
  | [] => rfl
  | x :: xs => by
    rw [List.map_cons, List.findIdx?_cons, List.findIdx?_cons, findIdx_map f p xs]
theorem idxF_strs {w : List Nat} {ws : List (List Nat)} (h : ∀ w ∈ ws, Low w) (hw : Low w) : idxF (.lst (ws.map sE)) (sE w) = (ws.findIdx? fun z => decide (z = w)).map fun j => .ok (natE j) := by
  have t1 : toPy (.lst (ws.map sE)) = some (.list (ws.map fun w => .str (mkS w))) := by
    rw [toPy, toPyL_map (e := sE) (pe := fun w => .str (mkS w)) (fun _ => rfl)]; rfl
  have t2 : toPy (sE w) = some (.str (mkS w)) := rfl
  have s1 : SeqAt.shaped (.list (ws.map fun w => .str (mkS w))) = true := by
    unfold SeqAt.shaped
    have : (PyData.list (ws.map fun w => PyData.str (mkS w))).canLay0 = true := canLays_str h
    rw [this, Bool.true_and]
    exact decide_eq_true (by
      show PyData.depthAll _ + 1 ≤ 64
      have := depth_strs ws
      omega)
  have s2 : SeqAt.shaped (.str (mkS w)) = true := by
    unfold SeqAt.shaped
    rw [str_ok hw]; rfl
  unfold idxF
  rw [t1, t2]
  show (if (SeqAt.shaped (.list (ws.map fun w => .str (mkS w))) && SeqAt.shaped (.str (mkS w))) = true then _ else none) = _
  rw [s1, s2, Bool.and_self, if_pos rfl, findIdx_map]
  simp only [eqv_str]
  rfl
end DL
namespace DLP
open PySem PySem.Spec PyProof.Rows L2 DL
def topS (i : Nat) : Stmt := PySem.Challenge.pw_holebook_k08_what_a_text_tells.main.body.getD i (.Pass ⟨0, 0, 0, 0⟩)
def xDs : List Str := ["NoText", "NoShape", "NoPiece", "NoName"]
def xCs : List Str := ["NoText", "NoName", "NoShape", "NoPiece", "HoleError", "ValueError"]
def cz (K : PySem.W.Frag) : Nat → Addr := fun n => clsA K (xDs.getD n "")
abbrev cmX (K : PySem.W.Frag) : CM := ⟨cz K, K⟩
abbrev i_NoPiece : Stmt := inClass (topS 5) 0
theorem sci_NoPiece : FnScope ["self", "place"] ["self", "place"] (defScope i_NoPiece) := ⟨rfl, rfl, rfl, by decide +kernel, rfl, by decide +kernel, by decide +kernel⟩
abbrev s__law_faces_by : Stmt := topS 28
theorem sc__law_faces_by : FnScope ["_law_word", "_law_family", "_law_size", "_law_i", "_law_faces", "_law_letter"] ["_law_word", "_law_family"] (defScope s__law_faces_by) := ⟨rfl, rfl, rfl, by decide +kernel, rfl, by decide +kernel, by decide +kernel⟩
def c__law_faces_by_1 : XE := .lc [3] (.r1 (.cons (.var 2) .nil)) (.n 3) .yes (.add true (.sl false (.var 0) .no (.e (.var 3))) (.sl false (.var 0) (.e (.add false (.var 3) (.kI 1))) .no))
def c__law_faces_by_2 : XE := .lc [5] (.seq false (.var 0)) (.n 5) .yes (.tup (.cons (.imm (.var 5)) .nil))
def b__law_faces_by_1 : XS := (.app (.s 4) (.add true (.add false (.sl false (.var 0) .no (.e (.var 3))) (.tup (.cons (.iop IOp.mod (.add false (.ix (.var 0) (.var 3)) (.ix (.var 0) (.add false (.var 3) (.kI 1)))) (.var 1)) .nil))) (.sl false (.var 0) (.e (.add false (.var 3) (.kI 2))) .no)))
def l__law_faces_by_1 : XS := .for_ (.r1 (.cons (.iop IOp.sub (.var 2) (.kI 1)) .nil)) (.n 3) b__law_faces_by_1 [3]
def B__law_faces_by : XS := (.seq (.asg (.bi BI.len (.cons (.var 0) .nil)) (.n 2))
  (.seq (.ite (.v (.eq false (.var 1) (.kI 0))) (.seq (.ite (.v (.iop IOp.lt (.var 2) (.kI 2))) (.ret (.lst .nil)) .skip)
  (.ret c__law_faces_by_1)) .skip)
  (.seq (.ite (.v (.eq false (.var 2) (.kI 0))) (.ret (.lst .nil)) .skip)
  (.seq (.ite (.v (.iop IOp.lt (.var 1) (.kI 0))) (.seq (.ite (.v (.eq false (.var 2) (.kI 1))) (.ret (.lst (.cons (.tup .nil) (.cons (.tup .nil) .nil)))) .skip)
  (.ret c__law_faces_by_2)) .skip)
  (.seq (.asg (.lst (.cons (.sl true (.var 0) (.e (.kI 1)) .no) .nil)) (.n 4))
  (.seq l__law_faces_by_1
  (.seq (.app (.s 4) (.sl true (.var 0) .no (.e (.iop IOp.sub (.var 2) (.kI 1)))))
  (.ret (.mv 4)))))))))
def pf__law_faces_by : PF := ⟨[false, false], .own, runD B__law_faces_by 4⟩
abbrev s__law_words_with : Stmt := topS 30
theorem sc__law_words_with : FnScope ["_law_words", "_law_word", "_law_family", "_law_layer", "_law_rows", "_law_k", "_law_below", "_law_one", "_law_face", "_law_more"] ["_law_words", "_law_word", "_law_family"] (defScope s__law_words_with) := ⟨rfl, rfl, rfl, by decide +kernel, rfl, by decide +kernel, by decide +kernel⟩
def b__law_words_with_1 : XS := (.ite (.and (.v (.inn true (.var 8) (.var 0))) (.v (.inn true (.var 8) (.var 6)))) (.app (.s 6) (.imm (.var 8))) .skip)
def l__law_words_with_1 : XS := .for_ (.seq false (.call pf__law_faces_by (.cons false (.var 7) (.cons false (.var 2) .nil)))) (.n 8) b__law_words_with_1 [8]
def b__law_words_with_2 : XS := l__law_words_with_1
def l__law_words_with_2 : XS := .for_ (.seq false (.fz 3)) (.n 7) b__law_words_with_2 [7, 8]
def b__law_words_with_3 : XS := (.seq (.asg (.add true (.var 3) (.var 4)) (.n 4))
  (.seq (.asg (.lst .nil) (.n 6))
  (.seq l__law_words_with_2
  (.asg (.mv 6) (.n 3)))))
def l__law_words_with_3 : XS := .for_ (.r1 (.cons (.kI 4) .nil)) (.n 5) b__law_words_with_3 [5, 6, 7, 8]
def b__law_words_with_4 : XS := (.ite (.v (.inn true (.var 7) (.var 9))) (.app (.s 9) (.imm (.var 7))) .skip)
def l__law_words_with_4 : XS := .for_ (.seq false (.fz 4)) (.n 7) b__law_words_with_4 [7]
def B__law_words_with : XS := (.seq (.asg (.lst (.cons (.imm (.var 1)) .nil)) (.n 3))
  (.seq (.asg (.lst .nil) (.n 4))
  (.seq l__law_words_with_3
  (.seq (.asg (.listOf true (.cons (.var 0) .nil)) (.n 9))
  (.seq l__law_words_with_4
  (.ret (.mv 9)))))))
def pf__law_words_with : PF := ⟨[false, false, false], .own, runD B__law_words_with 7⟩
abbrev s__law_word_by : Stmt := topS 29
theorem sc__law_word_by : FnScope ["_law_cell", "_law_family", "_law_letters", "_law_size", "_law_base", "_law_word", "_law_k"] ["_law_cell", "_law_family", "_law_letters"] (defScope s__law_word_by) := ⟨rfl, rfl, rfl, by decide +kernel, rfl, by decide +kernel, by decide +kernel⟩
def b__law_word_by_1 : XS := (.seq (.asg (.add true (.var 5) (.tup (.cons (.iop IOp.mod (.var 0) (.var 4)) .nil))) (.n 5))
  (.asg (.iop IOp.fdv (.var 0) (.var 4)) (.n 0)))
def l__law_word_by_1 : XS := .for_ (.r1 (.cons (.var 3) .nil)) (.n 6) b__law_word_by_1 [6]
def B__law_word_by : XS := (.seq (.asg (.iop IOp.mod (.var 0) (.kI 1000000)) (.n 0))
  (.seq (.asg (.iop IOp.mod (.var 0) (.kI 4)) (.n 3))
  (.seq (.asg (.imm (.var 2)) (.n 4))
  (.seq (.ite (.v (.eq false (.var 1) (.kI 0))) (.asg (.add true (.var 3) (.kI 1)) (.n 3)) .skip)
  (.seq (.ite (.and (.v (.iop IOp.lt (.var 1) (.kI 0))) (.v (.eq true (.var 3) (.kI 1)))) (.asg (.kI 3) (.n 3)) .skip)
  (.seq (.ite (.v (.iop IOp.gt (.var 1) (.kI 0))) (.asg (.imm (.var 1)) (.n 4)) .skip)
  (.seq (.asg (.iop IOp.fdv (.var 0) (.kI 4)) (.n 0))
  (.seq (.asg (.tup .nil) (.n 5))
  (.seq l__law_word_by_1
  (.ret (.mv 5)))))))))))
def pf__law_word_by : PF := ⟨[false, false, false], .own, runD B__law_word_by 4⟩
abbrev s__law_shape_by : Stmt := topS 31
theorem sc__law_shape_by : FnScope ["_law_kind", "_law_cells", "_law_most", "_law_family", "_law_words", "_law_cell", "_law_more", "_law_word", "_law_face"] ["_law_kind", "_law_cells", "_law_most"] (defScope s__law_shape_by) := ⟨rfl, rfl, rfl, by decide +kernel, rfl, by decide +kernel, by decide +kernel⟩
def b__law_shape_by_1 : XS := (.seq (.asg (.call pf__law_words_with (.cons false (.var 4) (.cons false (.call pf__law_word_by (.cons false (.var 5) (.cons false (.var 3) (.cons false (.add false (.kI 1) (.iop IOp.mod (.iop IOp.fdv (.var 0) (.kI 3)) (.kI 6))) .nil)))) (.cons false (.var 3) .nil)))) (.n 6))
  (.ite (.v (.iop IOp.le (.bi BI.len (.cons (.var 6) .nil)) (.var 2))) (.asg (.mv 6) (.n 4)) .skip))
def l__law_shape_by_1 : XS := .for_ (.seq false (.var 1)) (.n 5) b__law_shape_by_1 [5, 6]
def c__law_shape_by_1 : XE := .lc [8] (.seq false (.call pf__law_faces_by (.cons false (.var 7) (.cons false (.var 3) .nil)))) (.n 8) .yes (.index (.var 4) (.var 8))
def c__law_shape_by_2 : XE := .lc [7] (.seq false (.var 4)) (.n 7) .yes (.tupOf (.cons c__law_shape_by_1 .nil))
def B__law_shape_by : XS := (.seq (.asg (.kI 0) (.n 3))
  (.seq (.ite (.v (.eq false (.iop IOp.mod (.var 0) (.kI 3)) (.kI 1))) (.asg (.neg (.kI 1)) (.n 3)) .skip)
  (.seq (.ite (.v (.eq false (.iop IOp.mod (.var 0) (.kI 3)) (.kI 2))) (.asg (.add false (.kI 1) (.iop IOp.mod (.iop IOp.fdv (.var 0) (.kI 18)) (.kI 19))) (.n 3)) .skip)
  (.seq (.asg (.lst .nil) (.n 4))
  (.seq l__law_shape_by_1
  (.ret c__law_shape_by_2))))))
def pf__law_shape_by : PF := ⟨[false, false, false], .own, runD B__law_shape_by 6⟩
abbrev s__law_name_by : Stmt := topS 24
theorem sc__law_name_by : FnScope ["_law_number", "_law_stem", "_law_word", "_law_size", "_law_k"] ["_law_number", "_law_stem"] (defScope s__law_name_by) := ⟨rfl, rfl, rfl, by decide +kernel, rfl, by decide +kernel, by decide +kernel⟩
def b__law_name_by_1 : XS := (.seq (.asg (.add true (.var 2) (.ix (.kS "abcdefghijklmnopqrstuvwxyz") (.iop IOp.mod (.var 0) (.kI 26)))) (.n 2))
  (.asg (.iop IOp.fdv (.var 0) (.kI 26)) (.n 0)))
def l__law_name_by_1 : XS := .for_ (.r1 (.cons (.var 3) .nil)) (.n 4) b__law_name_by_1 [4]
def B__law_name_by : XS := (.seq (.asg (.sl false (.kS "abcdefghijklmnopq") .no (.e (.var 1))) (.n 2))
  (.seq (.asg (.add false (.kI 1) (.iop IOp.mod (.var 0) (.kI 4))) (.n 3))
  (.seq (.asg (.iop IOp.fdv (.var 0) (.kI 4)) (.n 0))
  (.seq l__law_name_by_1
  (.ret (.mv 2))))))
def pf__law_name_by : PF := ⟨[false, false], .own, runD B__law_name_by 3⟩
abbrev s__law_names_by : Stmt := topS 25
theorem sc__law_names_by : FnScope ["_law_cell", "_law_many", "_law_names", "_law_k", "_law_number", "_law_word"] ["_law_cell", "_law_many"] (defScope s__law_names_by) := ⟨rfl, rfl, rfl, by decide +kernel, rfl, by decide +kernel, by decide +kernel⟩
def b__law_names_by_1 : XS := (.seq (.asg (.add true (.var 4) (.kI 1)) (.n 4))
  (.asg (.call pf__law_name_by (.cons false (.var 4) (.cons false (.iop IOp.mod (.var 0) (.kI 5)) .nil))) (.n 5)))
def l__law_names_by_1 : XS := .whl (fun _ => 100000) (.v (.inn false (.var 5) (.var 2))) b__law_names_by_1 []
def b__law_names_by_2 : XS := (.seq (.asg (.iop IOp.mod (.add false (.add false (.iop IOp.mul (.iop IOp.mod (.var 0) (.kI 1000003)) (.kI 48271)) (.iop IOp.mul (.iop IOp.mul (.var 3) (.var 3)) (.kI 7907))) (.iop IOp.mul (.var 3) (.kI 131))) (.kI 400009)) (.n 4))
  (.seq (.asg (.call pf__law_name_by (.cons false (.var 4) (.cons false (.iop IOp.mod (.var 0) (.kI 5)) .nil))) (.n 5))
  (.seq l__law_names_by_1
  (.app (.s 2) (.mv 5)))))
def l__law_names_by_2 : XS := .for_ (.r1 (.cons (.var 1) .nil)) (.n 3) b__law_names_by_2 [3, 4, 5]
def B__law_names_by : XS := (.seq (.asg (.lst .nil) (.n 2))
  (.seq l__law_names_by_2
  (.ret (.mv 2))))
def pf__law_names_by : PF := ⟨[false, false], .own, runD B__law_names_by 4⟩
abbrev s__law_cell_at : Stmt := topS 27
theorem sc__law_cell_at : FnScope ["_law_script", "_law_k"] ["_law_script", "_law_k"] (defScope s__law_cell_at) := ⟨rfl, rfl, rfl, by decide +kernel, rfl, by decide +kernel, by decide +kernel⟩
def B__law_cell_at : XS := (.seq (.ite (.v (.iop IOp.lt (.var 1) (.bi BI.len (.cons (.var 0) .nil)))) (.ret (.imm (.ix (.var 0) (.var 1)))) .skip)
  (.ret (.kI 0)))
def pf__law_cell_at : PF := ⟨[false, false], .own, runD B__law_cell_at 0⟩
abbrev s__law_sign_by : Stmt := topS 32
theorem sc__law_sign_by : FnScope ["_law_cell", "_law_some"] ["_law_cell"] (defScope s__law_sign_by) := ⟨rfl, rfl, rfl, by decide +kernel, rfl, by decide +kernel, by decide +kernel⟩
def B__law_sign_by : XS := (.seq (.asg (.kS " ;; !\"#$&'()*+,-./0123456789:<=>?@ABCDEFGHIJKLMNOPQRSTUVWXYZ[\\]^_`{|}~
") (.n 1))
  (.seq (.asg (.add true (.var 1) (.kS "abcdefghijklmnopqrstuvwxyz")) (.n 1))
  (.ret (.imm (.ix (.var 1) (.iop IOp.mod (.var 0) (.bi BI.len (.cons (.var 1) .nil))))))))
def pf__law_sign_by : PF := ⟨[false], .own, runD B__law_sign_by 1⟩
abbrev s__law_spoilt_by : Stmt := topS 33
theorem sc__law_spoilt_by : FnScope ["_law_script", "_law_text", "_law_how", "_law_at", "_law_cell", "_law_words", "_law_spot", "_law_other"] ["_law_script", "_law_text"] (defScope s__law_spoilt_by) := ⟨rfl, rfl, rfl, by decide +kernel, rfl, by decide +kernel, by decide +kernel⟩
def t__law_spoilt_by_13 : XS := (.ret (.joinT (.kS " ") (.var 5)))
def t__law_spoilt_by_12 : XS := (.seq (.ite (.v (.eq false (.iop IOp.mod (.var 2) (.kI 6)) (.kI 5))) (.asg (.add true (.add false (.sl false (.var 5) .no (.e (.var 6))) (.rep (.lst (.cons (.mv 7) .nil)) (.add false (.kI 1) (.iop IOp.mod (.iop IOp.fdv (.var 2) (.kI 12)) (.kI 2))))) (.sl false (.var 5) (.e (.var 6)) .no)) (.n 5)) .skip)
  t__law_spoilt_by_13)
def t__law_spoilt_by_11 : XS := (.seq (.ite (.v (.eq false (.iop IOp.mod (.var 2) (.kI 6)) (.kI 4))) (.put (.imm (.var 7)) (.s 5) (.var 6)) .skip)
  t__law_spoilt_by_12)
def t__law_spoilt_by_10 : XS := (.seq (.ite (.and (.v (.eq false (.iop IOp.mod (.iop IOp.fdv (.var 2) (.kI 6)) (.kI 2)) (.kI 0))) (.v (.eq false (.sl false (.var 7) (.e (.neg (.kI 1))) .no) (.kS ";")))) (.asg (.sl true (.var 7) .no (.e (.neg (.kI 1)))) (.n 7)) .skip)
  t__law_spoilt_by_11)
def t__law_spoilt_by_9 : XS := (.seq (.asg (.imm (.ix (.var 5) (.iop IOp.mod (.iop IOp.fdv (.var 4) (.kI 7)) (.bi BI.len (.cons (.var 5) .nil))))) (.n 7))
  t__law_spoilt_by_10)
def t__law_spoilt_by_8 : XS := (.seq (.asg (.iop IOp.mod (.var 4) (.bi BI.len (.cons (.var 5) .nil))) (.n 6))
  t__law_spoilt_by_9)
def t__law_spoilt_by_7 : XS := (.seq (.asg (.splitT (.var 1) (.kS " ")) (.n 5))
  t__law_spoilt_by_8)
def t__law_spoilt_by_6 : XS := (.seq (.ite (.v (.eq false (.iop IOp.mod (.var 2) (.kI 6)) (.kI 3))) (.ret (.add true (.add false (.sl false (.var 1) .no (.e (.var 3))) (.call pf__law_sign_by (.cons false (.var 4) .nil))) (.sl false (.var 1) (.e (.add false (.var 3) (.kI 1))) .no))) .skip)
  t__law_spoilt_by_7)
def t__law_spoilt_by_5 : XS := (.seq (.ite (.v (.eq false (.iop IOp.mod (.var 2) (.kI 6)) (.kI 2))) (.ret (.add true (.sl false (.var 1) .no (.e (.var 3))) (.sl false (.var 1) (.e (.add false (.var 3) (.kI 1))) .no))) .skip)
  t__law_spoilt_by_6)
def t__law_spoilt_by_4 : XS := (.seq (.ite (.v (.eq false (.iop IOp.mod (.var 2) (.kI 6)) (.kI 1))) (.ret (.add true (.add false (.sl false (.var 1) .no (.e (.var 3))) (.call pf__law_sign_by (.cons false (.var 4) .nil))) (.sl false (.var 1) (.e (.var 3)) .no))) .skip)
  t__law_spoilt_by_5)
def t__law_spoilt_by_3 : XS := (.seq (.asg (.call pf__law_cell_at (.cons false (.var 0) (.cons false (.kI 3) .nil))) (.n 4))
  t__law_spoilt_by_4)
def t__law_spoilt_by_2 : XS := (.seq (.asg (.iop IOp.mod (.call pf__law_cell_at (.cons false (.var 0) (.cons false (.kI 2) .nil))) (.add false (.bi BI.len (.cons (.var 1) .nil)) (.kI 1))) (.n 3))
  t__law_spoilt_by_3)
def B__law_spoilt_by : XS := (.seq (.asg (.call pf__law_cell_at (.cons false (.var 0) (.cons false (.kI 1) .nil))) (.n 2))
  t__law_spoilt_by_2)
def pf__law_spoilt_by : PF := ⟨[false, false], .own, runD B__law_spoilt_by 6⟩
abbrev s__law_whole : Stmt := topS 22
theorem sc__law_whole : FnScope ["_law_found"] ["_law_found"] (defScope s__law_whole) := ⟨rfl, rfl, rfl, by decide +kernel, rfl, by decide +kernel, by decide +kernel⟩
def B__law_whole : XS := (.ret (.and (.isi .int (.var 0)) (.not (.isi .bool (.var 0)))))
def pf__law_whole : PF := ⟨[false], .own, runD B__law_whole 0⟩
abbrev s__law_fits_by : Stmt := topS 23
theorem sc__law_fits_by : FnScope ["_law_shape", "_law_thing", "_law_face", "_law_j", "_law_i"] ["_law_shape", "_law_thing"] (defScope s__law_fits_by) := ⟨rfl, rfl, rfl, by decide +kernel, rfl, by decide +kernel, by decide +kernel⟩
def b__law_fits_by_1 : XS := (.seq (.ite (.or (.not (.v (.call pf__law_whole (.cons false (.var 2) .nil)))) (.or (.v (.iop IOp.lt (.var 2) (.kI 0))) (.v (.iop IOp.ge (.var 2) (.bi BI.len (.cons (.var 0) .nil)))))) (.ret (.kB false)) .skip)
  (.ite (.v (.eq true (.bi BI.max2 (.cons (.kI 1) (.cons (.bi BI.len (.cons (.ix (.var 0) (.var 2)) .nil)) .nil))) (.iop IOp.sub (.bi BI.len (.cons (.var 1) .nil)) (.kI 1)))) (.ret (.kB false)) .skip))
def l__law_fits_by_1 : XS := .for_ (.seq false (.var 1)) (.n 2) b__law_fits_by_1 [2]
def b__law_fits_by_2 : XS := (.ite (.and (.v (.iop IOp.gt (.bi BI.len (.cons (.var 1) .nil)) (.kI 2))) (.v (.eq true (.ix (.ix (.var 0) (.ix (.var 1) (.var 3))) (.var 4)) (.ix (.ix (.var 0) (.ix (.var 1) (.var 4))) (.iop IOp.sub (.var 3) (.kI 1)))))) (.ret (.kB false)) .skip)
def l__law_fits_by_2 : XS := .for_ (.r1 (.cons (.var 3) .nil)) (.n 4) b__law_fits_by_2 [4]
def b__law_fits_by_3 : XS := l__law_fits_by_2
def l__law_fits_by_3 : XS := .for_ (.r1 (.cons (.bi BI.len (.cons (.var 1) .nil)) .nil)) (.n 3) b__law_fits_by_3 [3, 4]
def B__law_fits_by : XS := (.seq (.ite (.or (.not (.v (.isi .tuple (.var 1)))) (.v (.inn true (.bi BI.len (.cons (.var 1) .nil)) (.tup (.cons (.kI 0) (.cons (.kI 2) (.cons (.kI 3) (.cons (.kI 4) .nil)))))))) (.ret (.kB false)) .skip)
  (.seq l__law_fits_by_1
  (.seq l__law_fits_by_3
  (.ret (.kB true)))))
def pf__law_fits_by : PF := ⟨[false, false], .own, runD B__law_fits_by 3⟩
abbrev s__law_name_is : Stmt := topS 34
theorem sc__law_name_is : FnScope ["_law_word", "_law_sign"] ["_law_word"] (defScope s__law_name_is) := ⟨rfl, rfl, rfl, by decide +kernel, rfl, by decide +kernel, by decide +kernel⟩
def b__law_name_is_1 : XS := (.ite (.v (.sgn true (.var 1) (.kS "abcdefghijklmnopqrstuvwxyz"))) (.ret (.kB false)) .skip)
def l__law_name_is_1 : XS := .for_ (.txt (.var 0)) (.n 1) b__law_name_is_1 [1]
def B__law_name_is : XS := (.seq (.ite (.or (.v (.iop IOp.lt (.bi BI.len (.cons (.var 0) .nil)) (.kI 1))) (.v (.iop IOp.gt (.bi BI.len (.cons (.var 0) .nil)) (.kI 8)))) (.ret (.kB false)) .skip)
  (.seq l__law_name_is_1
  (.ret (.kB true))))
def pf__law_name_is : PF := ⟨[false], .own, runD B__law_name_is 1⟩
abbrev s__law_due_of : Stmt := topS 35
theorem sc__law_due_of : FnScope ["_law_text", "_law_rows", "_law_row", "_law_word", "_law_names", "_law_shape", "_law_place"] ["_law_text"] (defScope s__law_due_of) := ⟨rfl, rfl, rfl, by decide +kernel, rfl, by decide +kernel, by decide +kernel⟩
def c__law_due_of_1 : XE := .lc [2] (.seq false (.splitT (.var 0) (.kS "; "))) (.n 2) .yes (.splitT (.var 2) (.kS " "))
def b__law_due_of_1 : XS := (.ite (.not (.v (.call pf__law_name_is (.cons false (.var 3) .nil)))) (.ret (.tup (.cons (.kS "text") (.cons (.kB true) .nil)))) .skip)
def l__law_due_of_1 : XS := .for_ (.seq false (.var 2)) (.n 3) b__law_due_of_1 [3]
def b__law_due_of_2 : XS := l__law_due_of_1
def l__law_due_of_2 : XS := .for_ (.seq false (.fz 1)) (.n 2) b__law_due_of_2 [2, 3]
def b__law_due_of_3 : XS := (.ite (.v (.inn true (.var 3) (.var 4))) (.ret (.tup (.cons (.kS "name") (.cons (.kB true) .nil)))) .skip)
def l__law_due_of_3 : XS := .for_ (.seq false (.sl false (.var 2) (.e (.kI 1)) .no)) (.n 3) b__law_due_of_3 [3]
def c__law_due_of_2 : XE := .lc [3] (.seq false (.sl false (.var 2) (.e (.kI 1)) .no)) (.n 3) .yes (.index (.var 4) (.var 3))
def b__law_due_of_4 : XS := (.seq l__law_due_of_3
  (.seq (.ite (.v (.inn false (.ix (.var 2) (.kI 0)) (.var 4))) (.ret (.tup (.cons (.kS "name") (.cons (.kB true) .nil)))) .skip)
  (.seq (.app (.s 5) (.tupOf (.cons c__law_due_of_2 .nil)))
  (.app (.s 4) (.imm (.ix (.var 2) (.kI 0)))))))
def l__law_due_of_4 : XS := .for_ (.seq false (.var 1)) (.n 2) b__law_due_of_4 [2, 3]
def b__law_due_of_5 : XS := (.ite (.not (.v (.call pf__law_fits_by (.cons false (.sl false (.var 5) .no (.e (.var 6))) (.cons false (.ix (.var 5) (.var 6)) .nil))))) (.ret (.tup (.cons (.kS "piece") (.cons (.kB true) (.cons (.mv 6) .nil))))) .skip)
def l__law_due_of_5 : XS := .for_ (.r1 (.cons (.bi BI.len (.cons (.var 5) .nil)) .nil)) (.n 6) b__law_due_of_5 [6]
def B__law_due_of : XS := (.seq (.ite (.not (.v (.isi .str (.var 0)))) (.ret (.tup (.cons (.kS "text") (.cons (.kB true) .nil)))) .skip)
  (.seq (.asg (.lst .nil) (.n 1))
  (.seq (.ite (.v (.eq true (.var 0) (.kS ""))) (.asg c__law_due_of_1 (.n 1)) .skip)
  (.seq l__law_due_of_2
  (.seq (.asg (.lst .nil) (.n 4))
  (.seq (.asg (.lst .nil) (.n 5))
  (.seq l__law_due_of_4
  (.seq (.ite (.v (.iop IOp.gt (.bi BI.len (.cons (.var 5) .nil)) (.kI 40))) (.ret (.tup (.cons (.kS "shape") (.cons (.kB true) .nil)))) .skip)
  (.seq l__law_due_of_5
  (.ret (.tup (.cons (.kS "good") (.cons (.mv 5) (.cons (.mv 4) .nil))))))))))))))
def pf__law_due_of : PF := ⟨[false], .own, runD B__law_due_of 6⟩
abbrev s__law_text_by : Stmt := topS 26
theorem sc__law_text_by : FnScope ["_law_shape", "_law_names", "_law_rows", "_law_place", "_law_row", "_law_face"] ["_law_shape", "_law_names"] (defScope s__law_text_by) := ⟨rfl, rfl, rfl, by decide +kernel, rfl, by decide +kernel, by decide +kernel⟩
def b__law_text_by_1 : XS := (.asg (.add true (.add false (.var 4) (.kS " ")) (.ix (.var 1) (.var 5))) (.n 4))
def l__law_text_by_1 : XS := .for_ (.seq false (.ix (.var 0) (.var 3))) (.n 5) b__law_text_by_1 [5]
def b__law_text_by_2 : XS := (.seq (.asg (.imm (.ix (.var 1) (.var 3))) (.n 4))
  (.seq l__law_text_by_1
  (.app (.s 2) (.mv 4))))
def l__law_text_by_2 : XS := .for_ (.r1 (.cons (.bi BI.len (.cons (.var 0) .nil)) .nil)) (.n 3) b__law_text_by_2 [3, 4, 5]
def B__law_text_by : XS := (.seq (.asg (.lst .nil) (.n 2))
  (.seq l__law_text_by_2
  (.ret (.joinT (.kS "; ") (.var 2)))))
def pf__law_text_by : PF := ⟨[false, false], .own, runD B__law_text_by 4⟩
abbrev s_is_name : Stmt := topS 18
theorem sc_is_name : FnScope ["word", "sign"] ["word"] (defScope s_is_name) := ⟨rfl, rfl, rfl, by decide +kernel, rfl, by decide +kernel, by decide +kernel⟩
def b_is_name_1 : XS := (.ite (.v (.sgn true (.var 1) (.kS "abcdefghijklmnopqrstuvwxyz"))) (.ret (.kB false)) .skip)
def l_is_name_1 : XS := .for_ (.txt (.var 0)) (.n 1) b_is_name_1 [1]
def B_is_name : XS := (.seq (.ite (.or (.v (.iop IOp.lt (.bi BI.len (.cons (.var 0) .nil)) (.kI 1))) (.v (.iop IOp.gt (.bi BI.len (.cons (.var 0) .nil)) (.kI 8)))) (.ret (.kB false)) .skip)
  (.seq l_is_name_1
  (.ret (.kB true))))
def pf_is_name : PF := ⟨[false], .own, runD B_is_name 1⟩
abbrev s_rows_of : Stmt := topS 19
theorem sc_rows_of : FnScope ["thing", "rows", "part", "words", "word"] ["thing"] (defScope s_rows_of) := ⟨rfl, rfl, rfl, by decide +kernel, rfl, by decide +kernel, by decide +kernel⟩
def b_rows_of_1 : XS := (.ite (.not (.v (.call pf_is_name (.cons false (.var 4) .nil)))) (.rse 0) .skip)
def l_rows_of_1 : XS := .forkp false 3 (.n 4) b_rows_of_1 (fun _ => by unfold b_rows_of_1; apply KeepG.s; repeat' first | exact kg_skip | exact kg_nev | exact kg_rse | exact kg_ret | apply kg_seq | apply kg_ite | apply mt_v | apply mt_not | apply mt_or | apply mt_and | exact me_var | exact me_kI | exact me_kB | exact mr_lt | exact mr_le | exact mr_gt | exact mr_ge | apply me_iop | apply me_ix | apply me_eq | apply me_len | apply me_call | apply me_tup | exact ma_nil | apply ma_cons | exact mc_nil | apply mc_cons) [4]
def b_rows_of_2 : XS := (.seq (.asg (.splitT (.var 2) (.kS " ")) (.n 3))
  (.seq l_rows_of_1
  (.app (.s 1) (.mv 3))))
def l_rows_of_2 : XS := .for_ (.seq false (.splitT (.var 0) (.kS "; "))) (.n 2) b_rows_of_2 [2, 3, 4]
def B_rows_of : XS := (.seq (.ite (.not (.v (.isi .str (.var 0)))) (.rse 0) .skip)
  (.seq (.ite (.v (.eq false (.var 0) (.kS ""))) (.ret (.lst .nil)) .skip)
  (.seq (.asg (.lst .nil) (.n 1))
  (.seq l_rows_of_2
  (.ret (.mv 1))))))
def pf_rows_of : PF := ⟨[false], .own, runD B_rows_of 4⟩
abbrev s_level_of : Stmt := topS 8
theorem sc_level_of : FnScope ["piece"] ["piece"] (defScope s_level_of) := ⟨rfl, rfl, rfl, by decide +kernel, rfl, by decide +kernel, by decide +kernel⟩
def B_level_of : XS := (.seq (.ite (.v (.eq false (.bi BI.len (.cons (.var 0) .nil)) (.kI 0))) (.ret (.kI 0)) .skip)
  (.ret (.iop IOp.sub (.bi BI.len (.cons (.var 0) .nil)) (.kI 1))))
def pf_level_of : PF := ⟨[false], .own, runD B_level_of 0⟩
abbrev s_is_whole : Stmt := topS 7
theorem sc_is_whole : FnScope ["thing"] ["thing"] (defScope s_is_whole) := ⟨rfl, rfl, rfl, by decide +kernel, rfl, by decide +kernel, by decide +kernel⟩
def B_is_whole : XS := (.ret (.and (.isi .int (.var 0)) (.not (.isi .bool (.var 0)))))
def pf_is_whole : PF := ⟨[false], .own, runD B_is_whole 0⟩
abbrev s_faces_there : Stmt := topS 9
theorem sc_faces_there : FnScope ["shape", "piece", "face"] ["shape", "piece"] (defScope s_faces_there) := ⟨rfl, rfl, rfl, by decide +kernel, rfl, by decide +kernel, by decide +kernel⟩
def b_faces_there_1 : XS := (.seq (.ite (.or (.not (.v (.call pf_is_whole (.cons false (.var 2) .nil)))) (.or (.v (.iop IOp.lt (.var 2) (.kI 0))) (.v (.iop IOp.ge (.var 2) (.bi BI.len (.cons (.var 0) .nil)))))) (.ret (.kB false)) .skip)
  (.ite (.v (.eq true (.add false (.call pf_level_of (.cons false (.ix (.var 0) (.var 2)) .nil)) (.kI 1)) (.call pf_level_of (.cons false (.var 1) .nil)))) (.ret (.kB false)) .skip))
def l_faces_there_1 : XS := .for_ (.seq false (.var 1)) (.n 2) b_faces_there_1 [2]
def B_faces_there : XS := (.seq l_faces_there_1
  (.ret (.kB true)))
def pf_faces_there : PF := ⟨[false, false], .own, runD B_faces_there 1⟩
abbrev s_faces_meet : Stmt := topS 10
theorem sc_faces_meet : FnScope ["shape", "piece", "j", "i"] ["shape", "piece"] (defScope s_faces_meet) := ⟨rfl, rfl, rfl, by decide +kernel, rfl, by decide +kernel, by decide +kernel⟩
def b_faces_meet_1 : XS := (.ite (.v (.eq true (.ix (.ix (.var 0) (.ix (.var 1) (.var 2))) (.var 3)) (.ix (.ix (.var 0) (.ix (.var 1) (.var 3))) (.iop IOp.sub (.var 2) (.kI 1))))) (.ret (.kB false)) .skip)
def l_faces_meet_1 : XS := .for_ (.r1 (.cons (.var 2) .nil)) (.n 3) b_faces_meet_1 [3]
def b_faces_meet_2 : XS := l_faces_meet_1
def l_faces_meet_2 : XS := .for_ (.r1 (.cons (.bi BI.len (.cons (.var 1) .nil)) .nil)) (.n 2) b_faces_meet_2 [2, 3]
def B_faces_meet : XS := (.seq (.ite (.v (.iop IOp.lt (.bi BI.len (.cons (.var 1) .nil)) (.kI 3))) (.ret (.kB true)) .skip)
  (.seq l_faces_meet_2
  (.ret (.kB true))))
def pf_faces_meet : PF := ⟨[false, false], .own, runD B_faces_meet 2⟩
abbrev s_fits : Stmt := topS 11
theorem sc_fits : FnScope ["shape", "thing"] ["shape", "thing"] (defScope s_fits) := ⟨rfl, rfl, rfl, by decide +kernel, rfl, by decide +kernel, by decide +kernel⟩
def B_fits : XS := (.seq (.ite (.or (.not (.v (.isi .tuple (.var 1)))) (.v (.inn true (.bi BI.len (.cons (.var 1) .nil)) (.tup (.cons (.kI 0) (.cons (.kI 2) (.cons (.kI 3) (.cons (.kI 4) .nil)))))))) (.ret (.kB false)) .skip)
  (.ret (.and (.call pf_faces_there (.cons false (.var 0) (.cons false (.var 1) .nil))) (.call pf_faces_meet (.cons false (.var 0) (.cons false (.var 1) .nil))))))
def pf_fits : PF := ⟨[false, false], .own, runD B_fits 0⟩
abbrev s_first_bad : Stmt := topS 14
theorem sc_first_bad : FnScope ["pieces", "ahead", "piece"] ["pieces"] (defScope s_first_bad) := ⟨rfl, rfl, rfl, by decide +kernel, rfl, by decide +kernel, by decide +kernel⟩
def b_first_bad_1 : XS := (.seq (.ite (.not (.v (.call pf_fits (.cons false (.var 1) (.cons false (.var 2) .nil))))) (.ret (.bi BI.len (.cons (.var 1) .nil))) .skip)
  (.app (.s 1) (.imm (.var 2))))
def l_first_bad_1 : XS := .for_ (.seq false (.var 0)) (.n 2) b_first_bad_1 [2]
def B_first_bad : XS := (.seq (.asg (.lst .nil) (.n 1))
  (.seq l_first_bad_1
  (.ret .kN)))
def pf_first_bad : PF := ⟨[false], .own, runD B_first_bad 2⟩
abbrev s_shape_of : Stmt := topS 15
theorem sc_shape_of : FnScope ["thing", "bad"] ["thing"] (defScope s_shape_of) := ⟨rfl, rfl, rfl, by decide +kernel, rfl, by decide +kernel, by decide +kernel⟩
def B_shape_of : XS := (.seq (.ite (.or (.not (.v (.isi .list (.var 0)))) (.v (.iop IOp.gt (.bi BI.len (.cons (.var 0) .nil)) (.kI 40)))) (.rse 1) .skip)
  (.seq (.asg (.call pf_first_bad (.cons false (.var 0) .nil)) (.n 1))
  (.seq (.ite (.v (.isNo true (.var 1))) (.rsi 2 "place" (.var 1)) .skip)
  (.ret (.listOf true (.cons (.var 0) .nil))))))
def pf_shape_of : PF := ⟨[false], .own, runD B_shape_of 1⟩
abbrev s_read : Stmt := topS 20
theorem sc_read : FnScope ["thing", "spots", "names", "pieces", "words", "faces", "word"] ["thing"] (defScope s_read) := ⟨rfl, rfl, rfl, by decide +kernel, rfl, by decide +kernel, by decide +kernel⟩
def b_read_1 : XS := (.seq (.ite (.v (.din true (.var 6) (.var 1))) (.rse 3) .skip)
  (.app (.s 5) (.imm (.dix (.var 1) (.var 6)))))
def l_read_1 : XS := .for_ (.seq false (.sl false (.var 4) (.e (.kI 1)) .no)) (.n 6) b_read_1 [6]
def b_read_2 : XS := (.seq (.ite (.v (.din false (.ix (.var 4) (.kI 0)) (.var 1))) (.rse 3) .skip)
  (.seq (.asg (.lst .nil) (.n 5))
  (.seq l_read_1
  (.seq (.dput (.bi BI.len (.cons (.var 2) .nil)) (.s 1) (.ix (.var 4) (.kI 0)))
  (.seq (.app (.s 2) (.imm (.ix (.var 4) (.kI 0))))
  (.app (.s 3) (.tupOf (.cons (.mv 5) .nil))))))))
def l_read_2 : XS := .for_ (.seq false (.call pf_rows_of (.cons false (.var 0) .nil))) (.n 4) b_read_2 [4, 5, 6]
def B_read : XS := (.seq (.asg .dnw (.n 1))
  (.seq (.asg (.lst .nil) (.n 2))
  (.seq (.asg (.lst .nil) (.n 3))
  (.seq l_read_2
  (.ret (.tup (.cons (.call pf_shape_of (.cons false (.var 3) .nil)) (.cons (.mv 2) .nil))))))))
def pf_read : PF := ⟨[false], .own, runD B_read 6⟩
abbrev s__law_alone : Stmt := topS 36
theorem sc__law_alone : FnScope ["_law_error", "_law_many"] ["_law_error"] (defScope s__law_alone) := ⟨rfl, rfl, rfl, by decide +kernel, rfl, by decide +kernel, by decide +kernel⟩
def r__law_alone : Nat → D := fun n => .bl ((decide ((((((if (xIs (xDs.getD n "") "NoText") then 1 else 0) + (if (xIs (xDs.getD n "") "NoName") then 1 else 0)) + (if (xIs (xDs.getD n "") "NoShape") then 1 else 0)) + (if (xIs (xDs.getD n "") "NoPiece") then 1 else 0)) : Int) = 1)) && ((xIs (xDs.getD n "") "HoleError") && (xIs (xDs.getD n "") "ValueError")))
abbrev s__law_told_by : Stmt := topS 37
theorem sc__law_told_by : FnScope ["_law_text", "_law_found", "_law_told", "_law_error"] ["_law_text"] (defScope s__law_told_by) := ⟨rfl, rfl, rfl, by decide +kernel, rfl, by decide +kernel, by decide +kernel⟩
def r__law_told_by_1 : Res := fun n _ => some (.tup [.str "text", r__law_alone n])
def r__law_told_by_2 : Res := fun n _ => some (.tup [.str "name", r__law_alone n])
def r__law_told_by_3 : Res := fun n _ => some (.tup [.str "shape", r__law_alone n])
def r__law_told_by_4 : Res := fun n pl => fldR "place" (fun d => .tup [.str "piece", r__law_alone n, d]) pl
def B__law_told_by : XS := (.seq (.asg .kN (.n 1))
  (.seq (.asg .kN (.n 2))
  (.seq (.trym xDs [("NoText", r__law_told_by_1), ("NoName", r__law_told_by_2), ("NoShape", r__law_told_by_3), ("NoPiece", r__law_told_by_4)] (.asg (.call pf_read (.cons false (.var 0) .nil)) (.n 1)) 3 2)
  (.seq (.ite (.v (.isNo false (.var 2))) (.seq (.ite (.or (.not (.v (.isi .tuple (.var 1)))) (.v (.eq true (.bi BI.len (.cons (.var 1) .nil)) (.kI 2)))) (.ret (.tup (.cons (.kS "bad") .nil))) .skip)
  (.ret (.tup (.cons (.kS "good") (.take2 1 .nil))))) .skip)
  (.seq (.ite (.and (.v (.eq false (.ix (.var 2) (.kI 0)) (.kS "piece"))) (.not (.v (.call pf__law_whole (.cons false (.ix (.var 2) (.kI 2)) .nil))))) (.ret (.tup (.cons (.kS "bad") .nil))) .skip)
  (.ret (.mv 2)))))))
def pf__law_told_by : PF := ⟨[false], .own, runD B__law_told_by 3⟩
abbrev s_law : Stmt := topS 38
theorem sc_law : FnScope ["_law_script", "_law_shape", "_law_names", "_law_text", "_law_name", "_law_due"] ["_law_script"] (defScope s_law) := ⟨rfl, rfl, rfl, by decide +kernel, rfl, by decide +kernel, by decide +kernel⟩
def b_law_1 : XS := (.asg (.add true (.add false (.var 3) (.kS "; ")) (.var 4)) (.n 3))
def l_law_1 : XS := .for_ (.seq false (.sl false (.tup (.cons (.kS "w") (.cons (.kS "xw") (.cons (.kS "yxw") (.cons (.kS "zyxw") .nil))))) .no (.e (.iop IOp.mod (.call pf__law_cell_at (.cons false (.var 0) (.cons false (.kI 3) .nil))) (.kI 5))))) (.n 4) b_law_1 [4]
def t_law_7 : XS := (.ret (.and (.eq false (.call pf__law_told_by (.cons false (.var 3) .nil)) (.var 5)) (.eq false (.call pf__law_told_by (.cons false (.var 3) .nil)) (.var 5))))
def t_law_6 : XS := (.seq (.asg (.call pf__law_due_of (.cons false (.var 3) .nil)) (.n 5))
  t_law_7)
def t_law_5 : XS := (.seq (.ite (.v (.eq false (.iop IOp.mod (.iop IOp.fdv (.call pf__law_cell_at (.cons false (.var 0) (.cons false (.kI 0) .nil))) (.kI 57)) (.kI 10)) (.kI 2))) (.asg (.ix (.tup (.cons .kN (.cons (.kI 7) (.cons (.lst (.cons (.kS "p") .nil)) (.cons (.tup (.cons (.kS "p") .nil)) (.cons .dnw .nil)))))) (.iop IOp.mod (.call pf__law_cell_at (.cons false (.var 0) (.cons false (.kI 3) .nil))) (.kI 5))) (.n 3)) .skip)
  t_law_6)
def t_law_4 : XS := (.seq (.ite (.v (.eq false (.iop IOp.mod (.iop IOp.fdv (.call pf__law_cell_at (.cons false (.var 0) (.cons false (.kI 0) .nil))) (.kI 57)) (.kI 5)) (.kI 1))) l_law_1 .skip)
  t_law_5)
def t_law_3 : XS := (.seq (.asg (.call pf__law_spoilt_by (.cons false (.var 0) (.cons false (.call pf__law_text_by (.cons false (.var 1) (.cons false (.var 2) .nil))) .nil))) (.n 3))
  t_law_4)
def t_law_2 : XS := (.seq (.asg (.call pf__law_names_by (.cons false (.call pf__law_cell_at (.cons false (.var 0) (.cons false (.kI 4) .nil))) (.cons false (.bi BI.len (.cons (.var 1) .nil)) .nil))) (.n 2))
  t_law_3)
def B_law : XS := (.seq (.asg (.call pf__law_shape_by (.cons false (.call pf__law_cell_at (.cons false (.var 0) (.cons false (.kI 0) .nil))) (.cons false (.sl false (.var 0) (.e (.kI 4)) (.e (.kI 54))) (.cons false (.kI 40) .nil)))) (.n 1))
  t_law_2)
def pf_law : PF := ⟨[false], .own, runD B_law 5⟩
/-- what the top has written -/
structure Txt (K : PySem.W.Frag) (mg : Str → Option Value) where
  a__law_faces_by : Addr
  fd__law_faces_by : FuncData
  F__law_faces_by : Fun K "_law_faces_by" "_law_faces_by" s__law_faces_by a__law_faces_by fd__law_faces_by
  g__law_faces_by : mg "_law_faces_by" = some (.ref a__law_faces_by)
  b__law_faces_by : L2.Binds K fd__law_faces_by ["_law_word", "_law_family"] []
  a__law_words_with : Addr
  fd__law_words_with : FuncData
  F__law_words_with : Fun K "_law_words_with" "_law_words_with" s__law_words_with a__law_words_with fd__law_words_with
  g__law_words_with : mg "_law_words_with" = some (.ref a__law_words_with)
  b__law_words_with : L2.Binds K fd__law_words_with ["_law_words", "_law_word", "_law_family"] []
  a__law_word_by : Addr
  fd__law_word_by : FuncData
  F__law_word_by : Fun K "_law_word_by" "_law_word_by" s__law_word_by a__law_word_by fd__law_word_by
  g__law_word_by : mg "_law_word_by" = some (.ref a__law_word_by)
  b__law_word_by : L2.Binds K fd__law_word_by ["_law_cell", "_law_family", "_law_letters"] []
  a__law_shape_by : Addr
  fd__law_shape_by : FuncData
  F__law_shape_by : Fun K "_law_shape_by" "_law_shape_by" s__law_shape_by a__law_shape_by fd__law_shape_by
  g__law_shape_by : mg "_law_shape_by" = some (.ref a__law_shape_by)
  b__law_shape_by : L2.Binds K fd__law_shape_by ["_law_kind", "_law_cells", "_law_most"] []
  a__law_name_by : Addr
  fd__law_name_by : FuncData
  F__law_name_by : Fun K "_law_name_by" "_law_name_by" s__law_name_by a__law_name_by fd__law_name_by
  g__law_name_by : mg "_law_name_by" = some (.ref a__law_name_by)
  b__law_name_by : L2.Binds K fd__law_name_by ["_law_number", "_law_stem"] []
  a__law_names_by : Addr
  fd__law_names_by : FuncData
  F__law_names_by : Fun K "_law_names_by" "_law_names_by" s__law_names_by a__law_names_by fd__law_names_by
  g__law_names_by : mg "_law_names_by" = some (.ref a__law_names_by)
  b__law_names_by : L2.Binds K fd__law_names_by ["_law_cell", "_law_many"] []
  a__law_cell_at : Addr
  fd__law_cell_at : FuncData
  F__law_cell_at : Fun K "_law_cell_at" "_law_cell_at" s__law_cell_at a__law_cell_at fd__law_cell_at
  g__law_cell_at : mg "_law_cell_at" = some (.ref a__law_cell_at)
  b__law_cell_at : L2.Binds K fd__law_cell_at ["_law_script", "_law_k"] []
  a__law_sign_by : Addr
  fd__law_sign_by : FuncData
  F__law_sign_by : Fun K "_law_sign_by" "_law_sign_by" s__law_sign_by a__law_sign_by fd__law_sign_by
  g__law_sign_by : mg "_law_sign_by" = some (.ref a__law_sign_by)
  b__law_sign_by : L2.Binds K fd__law_sign_by ["_law_cell"] []
  a__law_spoilt_by : Addr
  fd__law_spoilt_by : FuncData
  F__law_spoilt_by : Fun K "_law_spoilt_by" "_law_spoilt_by" s__law_spoilt_by a__law_spoilt_by fd__law_spoilt_by
  g__law_spoilt_by : mg "_law_spoilt_by" = some (.ref a__law_spoilt_by)
  b__law_spoilt_by : L2.Binds K fd__law_spoilt_by ["_law_script", "_law_text"] []
  a__law_whole : Addr
  fd__law_whole : FuncData
  F__law_whole : Fun K "_law_whole" "_law_whole" s__law_whole a__law_whole fd__law_whole
  g__law_whole : mg "_law_whole" = some (.ref a__law_whole)
  b__law_whole : L2.Binds K fd__law_whole ["_law_found"] []
  a__law_fits_by : Addr
  fd__law_fits_by : FuncData
  F__law_fits_by : Fun K "_law_fits_by" "_law_fits_by" s__law_fits_by a__law_fits_by fd__law_fits_by
  g__law_fits_by : mg "_law_fits_by" = some (.ref a__law_fits_by)
  b__law_fits_by : L2.Binds K fd__law_fits_by ["_law_shape", "_law_thing"] []
  a__law_name_is : Addr
  fd__law_name_is : FuncData
  F__law_name_is : Fun K "_law_name_is" "_law_name_is" s__law_name_is a__law_name_is fd__law_name_is
  g__law_name_is : mg "_law_name_is" = some (.ref a__law_name_is)
  b__law_name_is : L2.Binds K fd__law_name_is ["_law_word"] []
  a__law_due_of : Addr
  fd__law_due_of : FuncData
  F__law_due_of : Fun K "_law_due_of" "_law_due_of" s__law_due_of a__law_due_of fd__law_due_of
  g__law_due_of : mg "_law_due_of" = some (.ref a__law_due_of)
  b__law_due_of : L2.Binds K fd__law_due_of ["_law_text"] []
  a__law_text_by : Addr
  fd__law_text_by : FuncData
  F__law_text_by : Fun K "_law_text_by" "_law_text_by" s__law_text_by a__law_text_by fd__law_text_by
  g__law_text_by : mg "_law_text_by" = some (.ref a__law_text_by)
  b__law_text_by : L2.Binds K fd__law_text_by ["_law_shape", "_law_names"] []
  a_is_name : Addr
  fd_is_name : FuncData
  F_is_name : Fun K "is_name" "is_name" s_is_name a_is_name fd_is_name
  g_is_name : mg "is_name" = some (.ref a_is_name)
  b_is_name : L2.Binds K fd_is_name ["word"] []
  a_rows_of : Addr
  fd_rows_of : FuncData
  F_rows_of : Fun K "rows_of" "rows_of" s_rows_of a_rows_of fd_rows_of
  g_rows_of : mg "rows_of" = some (.ref a_rows_of)
  b_rows_of : L2.Binds K fd_rows_of ["thing"] []
  a_level_of : Addr
  fd_level_of : FuncData
  F_level_of : Fun K "level_of" "level_of" s_level_of a_level_of fd_level_of
  g_level_of : mg "level_of" = some (.ref a_level_of)
  b_level_of : L2.Binds K fd_level_of ["piece"] []
  a_is_whole : Addr
  fd_is_whole : FuncData
  F_is_whole : Fun K "is_whole" "is_whole" s_is_whole a_is_whole fd_is_whole
  g_is_whole : mg "is_whole" = some (.ref a_is_whole)
  b_is_whole : L2.Binds K fd_is_whole ["thing"] []
  a_faces_there : Addr
  fd_faces_there : FuncData
  F_faces_there : Fun K "faces_there" "faces_there" s_faces_there a_faces_there fd_faces_there
  g_faces_there : mg "faces_there" = some (.ref a_faces_there)
  b_faces_there : L2.Binds K fd_faces_there ["shape", "piece"] []
  a_faces_meet : Addr
  fd_faces_meet : FuncData
  F_faces_meet : Fun K "faces_meet" "faces_meet" s_faces_meet a_faces_meet fd_faces_meet
  g_faces_meet : mg "faces_meet" = some (.ref a_faces_meet)
  b_faces_meet : L2.Binds K fd_faces_meet ["shape", "piece"] []
  a_fits : Addr
  fd_fits : FuncData
  F_fits : Fun K "fits" "fits" s_fits a_fits fd_fits
  g_fits : mg "fits" = some (.ref a_fits)
  b_fits : L2.Binds K fd_fits ["shape", "thing"] []
  a_first_bad : Addr
  fd_first_bad : FuncData
  F_first_bad : Fun K "first_bad" "first_bad" s_first_bad a_first_bad fd_first_bad
  g_first_bad : mg "first_bad" = some (.ref a_first_bad)
  b_first_bad : L2.Binds K fd_first_bad ["pieces"] []
  a_shape_of : Addr
  fd_shape_of : FuncData
  F_shape_of : Fun K "shape_of" "shape_of" s_shape_of a_shape_of fd_shape_of
  g_shape_of : mg "shape_of" = some (.ref a_shape_of)
  b_shape_of : L2.Binds K fd_shape_of ["thing"] []
  a_read : Addr
  fd_read : FuncData
  F_read : Fun K "read" "read" s_read a_read fd_read
  g_read : mg "read" = some (.ref a_read)
  b_read : L2.Binds K fd_read ["thing"] []
  a__law_alone : Addr
  fd__law_alone : FuncData
  F__law_alone : Fun K "_law_alone" "_law_alone" s__law_alone a__law_alone fd__law_alone
  g__law_alone : mg "_law_alone" = some (.ref a__law_alone)
  b__law_alone : L2.Binds K fd__law_alone ["_law_error"] []
  a__law_told_by : Addr
  fd__law_told_by : FuncData
  F__law_told_by : Fun K "_law_told_by" "_law_told_by" s__law_told_by a__law_told_by fd__law_told_by
  g__law_told_by : mg "_law_told_by" = some (.ref a__law_told_by)
  b__law_told_by : L2.Binds K fd__law_told_by ["_law_text"] []
  a_law : Addr
  fd_law : FuncData
  F_law : Fun K "law" "law" s_law a_law fd_law
  g_law : mg "law" = some (.ref a_law)
  b_law : L2.Binds K fd_law ["_law_script"] []
  m_ValueError : mg "ValueError" = none
  m_bool : mg "bool" = none
  m_int : mg "int" = none
  m_isinstance : mg "isinstance" = none
  m_len : mg "len" = none
  m_list : mg "list" = none
  m_max : mg "max" = none
  m_range : mg "range" = none
  m_str : mg "str" = none
  m_tuple : mg "tuple" = none
  t_MOST : Tok
  c_MOST : mg "MOST" = some (.int 40 t_MOST)
  t_LETTERS : Tok
  c_LETTERS : mg "LETTERS" = some (.str "abcdefghijklmnopqrstuvwxyz" t_LETTERS)
  X_f : XF K mg xDs xCs
  O_NoPiece : XOwn K mg "NoPiece" "place"
  fdi_NoPiece : FuncData
  FI_NoPiece : Fun K "__init__" "NoPiece.__init__" i_NoPiece (iniA K "NoPiece") fdi_NoPiece
  bi_NoPiece : L2.Binds K fdi_NoPiece ["self", "place"] []
section
variable {P : Program} {w : World} {K : PySem.W.Frag} {mg : Str → Option Value} {base : Heap}
theorem okI_NoPiece (T : Txt K mg) : FnOk P w K mg base (L2N.CX P w) 1 (iniA K "NoPiece") T.fdi_NoPiece ["self", "place"] (spI (clsA K "NoPiece") "place") :=
  ini_ok (m := "a piece does not fit") T.O_NoPiece T.FI_NoPiece sci_NoPiece fun cdv A outer s H E hr => pss_cons (ps_expr (pe_hoinit (X := cxOf (L2N.CX P w) P w K mg base ["self", "place"] "NoPiece.__init__" (defScope i_NoPiece) (iniA K "NoPiece") cdv A outer s H E) rfl T.O_NoPiece.gH T.O_NoPiece.h1 T.O_NoPiece.h2 T.O_NoPiece.h3 (pa_cons (pv 0) (pa_cons pe_str pa_nil)))) (pss_one (ps_ost (pv 0) (pv 1)))
theorem ok__law_faces_by (T : Txt K mg) : FnOk P w K mg base (L2N.CX P w) 1 T.a__law_faces_by T.fd__law_faces_by ["_law_word", "_law_family"] (spP ⟨cz K, K⟩ pf__law_faces_by) :=
  fn_okXN (cm := ⟨cz K, K⟩) (B := B__law_faces_by) (pk := [false, false]) (rk := .own) (m := 4) T.F__law_faces_by sc__law_faces_by rfl rfl (by rfl) fun cdv A outer s H E hr => by
  refine ⟨_, (pss_cons (ps_set (i := 2) sc__law_faces_by.nd rfl (Or.inl rfl) (pe_callB (call_lenK K) (by rfl) T.m_len boot_len (pa_cons (pv 0) pa_nil)))
  (pss_cons (ps_if (pt_v (op_eqK K hr.units) (pv 1) pe_int (nomark _)) (pss_cons (ps_if (pt_v op_lt (pv 2) pe_int (nomark _)) (pss_one (ps_ret (pe_lst pa_nil))) pss_nil)
  (pss_one (ps_ret (pe_lc (own := [("_law_i", 3)]) rfl sc__law_faces_by.nd (pi_range1 (by rfl) T.m_range (pa_cons (pv 2) pa_nil)) (blkOk_by (by kernel_rfl)) (fun _ _ _ _ _ => (pg_name (i := 3) sc__law_faces_by.nd rfl (Or.inl rfl))) (fun _ _ _ _ _ => pts_nil) (fun _ _ _ _ _ => (pe_op (op_addK K) (pe_slice (sl_anyK K) (pv 0) po_none (po_some (pv 3))) (pe_slice (sl_anyK K) (pv 0) (po_some (pe_op (op_addK K) (pv 3) pe_int)) po_none))))))) pss_nil)
  (pss_cons (ps_if (pt_v (op_eqK K hr.units) (pv 2) pe_int (nomark _)) (pss_one (ps_ret (pe_lst pa_nil))) pss_nil)
  (pss_cons (ps_if (pt_v op_lt (pv 1) pe_int (nomark _)) (pss_cons (ps_if (pt_v (op_eqK K hr.units) (pv 2) pe_int (nomark _)) (pss_one (ps_ret (pe_lst (pa_cons (pe_tup pa_nil) (pa_cons (pe_tup pa_nil) pa_nil))))) pss_nil)
  (pss_one (ps_ret (pe_lc (own := [("_law_letter", 5)]) rfl sc__law_faces_by.nd (pi_seqK K (pv 0)) (blkOk_by (by kernel_rfl)) (fun _ _ _ _ _ => (pg_name (i := 5) sc__law_faces_by.nd rfl (Or.inl rfl))) (fun _ _ _ _ _ => pts_nil) (fun _ _ _ _ _ => (pe_tup (pa_cons (pv 5) pa_nil))))))) pss_nil)
  (pss_cons (ps_set (i := 4) sc__law_faces_by.nd rfl (Or.inl rfl) (pe_lst (pa_cons (pe_slice (sl_anyK K) (pv 0) (po_some pe_int) po_none) pa_nil)))
  (pss_cons (ps_for (passes_of rfl) rfl (pi_range1 (by rfl) T.m_range (pa_cons (pe_op op_sub (pv 2) pe_int) pa_nil)) (pg_name (i := 3) sc__law_faces_by.nd rfl (Or.inl rfl))
  (pss_one (ps_expr (pe_bmK K PySem.F.plainAttrs_list PySem.F.slot_list_append PySem.F.type_list_append mt_append (pv 4) (pa_cons (pe_op (op_addK K) (pe_op (op_addK K) (pe_slice (sl_anyK K) (pv 0) po_none (po_some (pv 3))) (pe_tup (pa_cons (pe_op op_modN (pe_op (op_addK K) (pe_ix (ix_seqK K) (pv 0) (pv 3) (fun _ _ => rfl)) (pe_ix (ix_seqK K) (pv 0) (pe_op (op_addK K) (pv 3) pe_int) (fun _ _ => rfl))) (pv 1)) pa_nil))) (pe_slice (sl_anyK K) (pv 0) (po_some (pe_op (op_addK K) (pv 3) pe_int)) po_none)) pa_nil)))))
  (pss_cons (ps_expr (pe_bmK K PySem.F.plainAttrs_list PySem.F.slot_list_append PySem.F.type_list_append mt_append (pv 4) (pa_cons (pe_slice (sl_anyK K) (pv 0) po_none (po_some (pe_op op_sub (pv 2) pe_int))) pa_nil)))
  (pss_one (ps_ret (pv 4)))))))))), ?_⟩
  exact t_of_eq (by kernel_rfl)
theorem ok__law_words_with (T : Txt K mg) : FnOk P w K mg base (L2N.CX P w) 2 T.a__law_words_with T.fd__law_words_with ["_law_words", "_law_word", "_law_family"] (spP ⟨cz K, K⟩ pf__law_words_with) :=
  fn_okXN (cm := ⟨cz K, K⟩) (B := B__law_words_with) (pk := [false, false, false]) (rk := .own) (m := 7) T.F__law_words_with sc__law_words_with rfl rfl (by rfl) fun cdv A outer s H E hr => by
  refine ⟨_, (pss_cons (ps_set (i := 3) sc__law_words_with.nd rfl (Or.inl rfl) (pe_lst (pa_cons (pv 1) pa_nil)))
  (pss_cons (ps_set (i := 4) sc__law_words_with.nd rfl (Or.inl rfl) (pe_lst pa_nil))
  (pss_cons (ps_for (passes_of rfl) rfl (pi_range1 (by rfl) T.m_range (pa_cons pe_int pa_nil)) (pg_name (i := 5) sc__law_words_with.nd rfl (Or.inl rfl))
  (pss_cons (ps_set (i := 4) sc__law_words_with.nd rfl (Or.inl rfl) (pe_op (op_addK K) (pv 3) (pv 4)))
  (pss_cons (ps_set (i := 6) sc__law_words_with.nd rfl (Or.inl rfl) (pe_lst pa_nil))
  (pss_cons (ps_for (passes_of rfl) rfl (pi_seqK K (pv 3)) (pg_name (i := 7) sc__law_words_with.nd rfl (Or.inl rfl))
  (pss_one (ps_for (passes_of rfl) rfl (pi_seqK K (pe_callS (ok__law_faces_by T) (hr.mono (by decide)) (by rfl) T.g__law_faces_by T.F__law_faces_by.kp T.b__law_faces_by (fun σ => L2N.passAt (L2N.takes_of rfl rfl rfl rfl) σ) (pa_cons (pv 7) (pa_cons (pv 2) pa_nil)))) (pg_name (i := 8) sc__law_words_with.nd rfl (Or.inl rfl))
  (pss_one (ps_if (PW.pt (pw_and (pt_v (op_notInK K (hu65 hr)) (pv 8) (pv 0) (by rfl)) (pw_and1 (pt_v (op_notInK K (hu65 hr)) (pv 8) (pv 6) (by rfl))))) (pss_one (ps_expr (pe_bmK K PySem.F.plainAttrs_list PySem.F.slot_list_append PySem.F.type_list_append mt_append (pv 6) (pa_cons (pv 8) pa_nil)))) pss_nil)))))
  (pss_one (ps_set (i := 3) sc__law_words_with.nd rfl (Or.inl rfl) (pv 6)))))))
  (pss_cons (ps_set (i := 9) sc__law_words_with.nd rfl (Or.inl rfl) (pe_callTy (call_list_ofK K) (by rfl) T.m_list boot_list (pa_cons (pv 0) pa_nil)))
  (pss_cons (ps_for (passes_of rfl) rfl (pi_seqK K (pv 4)) (pg_name (i := 7) sc__law_words_with.nd rfl (Or.inl rfl))
  (pss_one (ps_if (pt_v (op_notInK K (hu65 hr)) (pv 7) (pv 9) (by rfl)) (pss_one (ps_expr (pe_bmK K PySem.F.plainAttrs_list PySem.F.slot_list_append PySem.F.type_list_append mt_append (pv 9) (pa_cons (pv 7) pa_nil)))) pss_nil)))
  (pss_one (ps_ret (pv 9)))))))), ?_⟩
  exact t_of_eq (by kernel_rfl)
theorem ok__law_word_by (T : Txt K mg) : FnOk P w K mg base (L2N.CX P w) 1 T.a__law_word_by T.fd__law_word_by ["_law_cell", "_law_family", "_law_letters"] (spP ⟨cz K, K⟩ pf__law_word_by) :=
  fn_okXN (cm := ⟨cz K, K⟩) (B := B__law_word_by) (pk := [false, false, false]) (rk := .own) (m := 4) T.F__law_word_by sc__law_word_by rfl rfl (by rfl) fun cdv A outer s H E hr => by
  refine ⟨_, (pss_cons (ps_set (i := 0) sc__law_word_by.nd rfl (Or.inl rfl) (pe_op op_modN (pv 0) pe_int))
  (pss_cons (ps_set (i := 3) sc__law_word_by.nd rfl (Or.inl rfl) (pe_op op_modN (pv 0) pe_int))
  (pss_cons (ps_set (i := 4) sc__law_word_by.nd rfl (Or.inl rfl) (pv 2))
  (pss_cons (ps_if (pt_v (op_eqK K hr.units) (pv 1) pe_int (nomark _)) (pss_one (ps_set (i := 3) sc__law_word_by.nd rfl (Or.inl rfl) (pe_op (op_addK K) (pv 3) pe_int))) pss_nil)
  (pss_cons (ps_if (PW.pt (pw_and (pt_v op_lt (pv 1) pe_int (nomark _)) (pw_and1 (pt_v (op_neK K hr.units) (pv 3) pe_int (nomark _))))) (pss_one (ps_set (i := 3) sc__law_word_by.nd rfl (Or.inl rfl) pe_int)) pss_nil)
  (pss_cons (ps_if (pt_v op_gt (pv 1) pe_int (nomark _)) (pss_one (ps_set (i := 4) sc__law_word_by.nd rfl (Or.inl rfl) (pv 1))) pss_nil)
  (pss_cons (ps_set (i := 0) sc__law_word_by.nd rfl (Or.inl rfl) (pe_op op_fdivW (pv 0) pe_int))
  (pss_cons (ps_set (i := 5) sc__law_word_by.nd rfl (Or.inl rfl) (pe_tup pa_nil))
  (pss_cons (ps_for (passes_of rfl) rfl (pi_range1 (by rfl) T.m_range (pa_cons (pv 3) pa_nil)) (pg_name (i := 6) sc__law_word_by.nd rfl (Or.inl rfl))
  (pss_cons (ps_set (i := 5) sc__law_word_by.nd rfl (Or.inl rfl) (pe_op (op_addK K) (pv 5) (pe_tup (pa_cons (pe_op op_modN (pv 0) (pv 4)) pa_nil))))
  (pss_one (ps_set (i := 0) sc__law_word_by.nd rfl (Or.inl rfl) (pe_op op_fdivW (pv 0) (pv 4))))))
  (pss_one (ps_ret (pv 5)))))))))))), ?_⟩
  exact t_of_eq (by kernel_rfl)
theorem ok__law_shape_by (T : Txt K mg) : FnOk P w K mg base (L2N.CX P w) 3 T.a__law_shape_by T.fd__law_shape_by ["_law_kind", "_law_cells", "_law_most"] (spP ⟨cz K, K⟩ pf__law_shape_by) :=
  fn_okXN (cm := ⟨cz K, K⟩) (B := B__law_shape_by) (pk := [false, false, false]) (rk := .own) (m := 6) T.F__law_shape_by sc__law_shape_by rfl rfl (by rfl) fun cdv A outer s H E hr => by
  refine ⟨_, (pss_cons (ps_set (i := 3) sc__law_shape_by.nd rfl (Or.inr rfl) pe_int)
  (pss_cons (ps_if (pt_v (op_eqK K hr.units) (pe_op op_modN (pv 0) pe_int) pe_int (nomark _)) (pss_one (ps_set (i := 3) sc__law_shape_by.nd rfl (Or.inr rfl) (pe_un un_neg pe_int))) pss_nil)
  (pss_cons (ps_if (pt_v (op_eqK K hr.units) (pe_op op_modN (pv 0) pe_int) pe_int (nomark _)) (pss_one (ps_set (i := 3) sc__law_shape_by.nd rfl (Or.inr rfl) (pe_op (op_addK K) pe_int (pe_op op_modN (pe_op op_fdivW (pv 0) pe_int) pe_int)))) pss_nil)
  (pss_cons (ps_set (i := 4) sc__law_shape_by.nd rfl (Or.inr rfl) (pe_lst pa_nil))
  (pss_cons (ps_for (passes_of rfl) rfl (pi_seqK K (pv 1)) (pg_name (i := 5) sc__law_shape_by.nd rfl (Or.inl rfl))
  (pss_cons (ps_set (i := 6) sc__law_shape_by.nd rfl (Or.inl rfl) (pe_callS (ok__law_words_with T) (hr.mono (by decide)) (by rfl) T.g__law_words_with T.F__law_words_with.kp T.b__law_words_with (fun σ => L2N.passAt (L2N.takes_of rfl rfl rfl rfl) σ) (pa_cons (pv 4) (pa_cons (pe_callS (ok__law_word_by T) (hr.mono (by decide)) (by rfl) T.g__law_word_by T.F__law_word_by.kp T.b__law_word_by (fun σ => L2N.passAt (L2N.takes_of rfl rfl rfl rfl) σ) (pa_cons (pv 5) (pa_cons (pv 3) (pa_cons (pe_op (op_addK K) pe_int (pe_op op_modN (pe_op op_fdivW (pv 0) pe_int) pe_int)) pa_nil)))) (pa_cons (pv 3) pa_nil)))))
  (pss_one (ps_if (pt_v op_le (pe_callB (call_lenK K) (by rfl) T.m_len boot_len (pa_cons (pv 6) pa_nil)) (pv 2) (nomark _)) (pss_one (ps_set (i := 4) sc__law_shape_by.nd rfl (Or.inr rfl) (pv 6))) pss_nil))))
  (pss_one (ps_ret (pe_lc (own := [("_law_word", 7)]) rfl sc__law_shape_by.nd (pi_seqK K (pv 4)) (blkOk_by (by kernel_rfl)) (fun _ _ _ _ _ => (pg_name (i := 7) sc__law_shape_by.nd rfl (Or.inl rfl))) (fun _ _ _ _ _ => pts_nil) (fun _ _ _ _ _ => (pe_callTy (call_tuple_ofK K) (by rfl) T.m_tuple boot_tuple (pa_cons (pe_lc (own := [("_law_face", 8)]) rfl sc__law_shape_by.nd (pi_seqK K (pe_callS (ok__law_faces_by T) (hr.mono (by decide)) (by rfl) T.g__law_faces_by T.F__law_faces_by.kp T.b__law_faces_by (fun σ => L2N.passAt takes0N σ) (pa_cons (pv 7) (pa_cons (pv 3) pa_nil)))) (blkOk_by (by kernel_rfl)) (fun _ _ _ _ _ => (pg_name (i := 8) sc__law_shape_by.nd rfl (Or.inl rfl))) (fun _ _ _ _ _ => pts_nil) (fun _ _ _ _ _ => (pe_bmK K PySem.F.plainAttrs_list PySem.F.slot_list_index PySem.F.type_list_index (mt_indexK K (hu65 hr)) (pv 4) (pa_cons (pv 8) pa_nil)))) pa_nil))))))))))), ?_⟩
  exact t_of_eq (by kernel_rfl)
theorem ok__law_name_by (T : Txt K mg) : FnOk P w K mg base (L2N.CX P w) 1 T.a__law_name_by T.fd__law_name_by ["_law_number", "_law_stem"] (spP ⟨cz K, K⟩ pf__law_name_by) :=
  fn_okXN (cm := ⟨cz K, K⟩) (B := B__law_name_by) (pk := [false, false]) (rk := .own) (m := 3) T.F__law_name_by sc__law_name_by rfl rfl (by rfl) fun cdv A outer s H E hr => by
  refine ⟨_, (pss_cons (ps_set (i := 2) sc__law_name_by.nd rfl (Or.inl rfl) (pe_slice (sl_anyK K) pe_str po_none (po_some (pv 1))))
  (pss_cons (ps_set (i := 3) sc__law_name_by.nd rfl (Or.inl rfl) (pe_op (op_addK K) pe_int (pe_op op_modN (pv 0) pe_int)))
  (pss_cons (ps_set (i := 0) sc__law_name_by.nd rfl (Or.inl rfl) (pe_op op_fdivW (pv 0) pe_int))
  (pss_cons (ps_for (passes_of rfl) rfl (pi_range1 (by rfl) T.m_range (pa_cons (pv 3) pa_nil)) (pg_name (i := 4) sc__law_name_by.nd rfl (Or.inl rfl))
  (pss_cons (ps_set (i := 2) sc__law_name_by.nd rfl (Or.inl rfl) (pe_op (op_addK K) (pv 2) (pe_ix (ix_seqK K) pe_str (pe_op op_modN (pv 0) pe_int) (fun _ _ => rfl))))
  (pss_one (ps_set (i := 0) sc__law_name_by.nd rfl (Or.inl rfl) (pe_op op_fdivW (pv 0) pe_int)))))
  (pss_one (ps_ret (pv 2))))))), ?_⟩
  exact t_of_eq (by kernel_rfl)
theorem ok__law_names_by (T : Txt K mg) : FnOk P w K mg base (L2N.CX P w) 2 T.a__law_names_by T.fd__law_names_by ["_law_cell", "_law_many"] (spP ⟨cz K, K⟩ pf__law_names_by) :=
  fn_okXN (cm := ⟨cz K, K⟩) (B := B__law_names_by) (pk := [false, false]) (rk := .own) (m := 4) T.F__law_names_by sc__law_names_by rfl rfl (by rfl) fun cdv A outer s H E hr => by
  refine ⟨_, (pss_cons (ps_set (i := 2) sc__law_names_by.nd rfl (Or.inl rfl) (pe_lst pa_nil))
  (pss_cons (ps_for (passes_of rfl) rfl (pi_range1 (by rfl) T.m_range (pa_cons (pv 1) pa_nil)) (pg_name (i := 3) sc__law_names_by.nd rfl (Or.inl rfl))
  (pss_cons (ps_set (i := 4) sc__law_names_by.nd rfl (Or.inl rfl) (pe_op op_modN (pe_op (op_addK K) (pe_op (op_addK K) (pe_op op_mulB (pe_op op_modN (pv 0) pe_int) pe_int) (pe_op op_mulB (pe_op op_mulB (pv 3) (pv 3)) pe_int)) (pe_op op_mulB (pv 3) pe_int)) pe_int))
  (pss_cons (ps_set (i := 5) sc__law_names_by.nd rfl (Or.inl rfl) (pe_callS (ok__law_name_by T) (hr.mono (by decide)) (by rfl) T.g__law_name_by T.F__law_name_by.kp T.b__law_name_by (fun σ => L2N.passAt (L2N.takes_of rfl rfl rfl rfl) σ) (pa_cons (pv 4) (pa_cons (pe_op op_modN (pv 0) pe_int) pa_nil))))
  (pss_cons (ps_while (passes_of rfl) (pt_v (op_inK K (hu65 hr)) (pv 5) (pv 2) (by rfl))
  (pss_cons (ps_set (i := 4) sc__law_names_by.nd rfl (Or.inl rfl) (pe_op (op_addK K) (pv 4) pe_int))
  (pss_one (ps_set (i := 5) sc__law_names_by.nd rfl (Or.inl rfl) (pe_callS (ok__law_name_by T) (hr.mono (by decide)) (by rfl) T.g__law_name_by T.F__law_name_by.kp T.b__law_name_by (fun σ => L2N.passAt (L2N.takes_of rfl rfl rfl rfl) σ) (pa_cons (pv 4) (pa_cons (pe_op op_modN (pv 0) pe_int) pa_nil)))))))
  (pss_one (ps_expr (pe_bmK K PySem.F.plainAttrs_list PySem.F.slot_list_append PySem.F.type_list_append mt_append (pv 2) (pa_cons (pv 5) pa_nil))))))))
  (pss_one (ps_ret (pv 2))))), ?_⟩
  exact t_of_eq (by kernel_rfl)
theorem ok__law_cell_at (T : Txt K mg) : FnOk P w K mg base (L2N.CX P w) 1 T.a__law_cell_at T.fd__law_cell_at ["_law_script", "_law_k"] (spP ⟨cz K, K⟩ pf__law_cell_at) :=
  fn_okXN (cm := ⟨cz K, K⟩) (B := B__law_cell_at) (pk := [false, false]) (rk := .own) (m := 0) T.F__law_cell_at sc__law_cell_at rfl rfl (by rfl) fun cdv A outer s H E hr => by
  refine ⟨_, (pss_cons (ps_if (pt_v op_lt (pv 1) (pe_callB (call_lenK K) (by rfl) T.m_len boot_len (pa_cons (pv 0) pa_nil)) (nomark _)) (pss_one (ps_ret (pe_ix (ix_seqK K) (pv 0) (pv 1) (fun _ _ => rfl)))) pss_nil)
  (pss_one (ps_ret pe_int))), ?_⟩
  exact t_of_eq (by kernel_rfl)
theorem ok__law_sign_by (T : Txt K mg) : FnOk P w K mg base (L2N.CX P w) 1 T.a__law_sign_by T.fd__law_sign_by ["_law_cell"] (spP ⟨cz K, K⟩ pf__law_sign_by) :=
  fn_okXN (cm := ⟨cz K, K⟩) (B := B__law_sign_by) (pk := [false]) (rk := .own) (m := 1) T.F__law_sign_by sc__law_sign_by rfl rfl (by rfl) fun cdv A outer s H E hr => by
  refine ⟨_, (pss_cons (ps_set (i := 1) sc__law_sign_by.nd rfl (Or.inl rfl) pe_str)
  (pss_cons (ps_set (i := 1) sc__law_sign_by.nd rfl (Or.inl rfl) (pe_op (op_addK K) (pv 1) pe_str))
  (pss_one (ps_ret (pe_ix (ix_seqK K) (pv 1) (pe_op op_modN (pv 0) (pe_callB (call_lenK K) (by rfl) T.m_len boot_len (pa_cons (pv 1) pa_nil))) (fun _ _ => rfl)))))), ?_⟩
  exact t_of_eq (by kernel_rfl)
theorem ok__law_spoilt_by (T : Txt K mg) : FnOk P w K mg base (L2N.CX P w) 2 T.a__law_spoilt_by T.fd__law_spoilt_by ["_law_script", "_law_text"] (spP ⟨cz K, K⟩ pf__law_spoilt_by) :=
  fn_okXN (cm := ⟨cz K, K⟩) (B := B__law_spoilt_by) (pk := [false, false]) (rk := .own) (m := 6) T.F__law_spoilt_by sc__law_spoilt_by rfl rfl (by rfl) fun cdv A outer s H E hr => by
  refine ⟨_, (pss_cons (ps_set (i := 2) sc__law_spoilt_by.nd rfl (Or.inl rfl) (pe_callS (ok__law_cell_at T) (hr.mono (by decide)) (by rfl) T.g__law_cell_at T.F__law_cell_at.kp T.b__law_cell_at (fun σ => L2N.passAt (L2N.takes_of rfl rfl rfl rfl) σ) (pa_cons (pv 0) (pa_cons pe_int pa_nil))))
  (pss_cons (ps_set (i := 3) sc__law_spoilt_by.nd rfl (Or.inl rfl) (pe_op op_modN (pe_callS (ok__law_cell_at T) (hr.mono (by decide)) (by rfl) T.g__law_cell_at T.F__law_cell_at.kp T.b__law_cell_at (fun σ => L2N.passAt (L2N.takes_of rfl rfl rfl rfl) σ) (pa_cons (pv 0) (pa_cons pe_int pa_nil))) (pe_op (op_addK K) (pe_callB (call_lenK K) (by rfl) T.m_len boot_len (pa_cons (pv 1) pa_nil)) pe_int)))
  (pss_cons (ps_set (i := 4) sc__law_spoilt_by.nd rfl (Or.inl rfl) (pe_callS (ok__law_cell_at T) (hr.mono (by decide)) (by rfl) T.g__law_cell_at T.F__law_cell_at.kp T.b__law_cell_at (fun σ => L2N.passAt (L2N.takes_of rfl rfl rfl rfl) σ) (pa_cons (pv 0) (pa_cons pe_int pa_nil))))
  (pss_cons (ps_if (pt_v (op_eqK K hr.units) (pe_op op_modN (pv 2) pe_int) pe_int (nomark _)) (pss_one (ps_ret (pe_op (op_addK K) (pe_op (op_addK K) (pe_slice (sl_anyK K) (pv 1) po_none (po_some (pv 3))) (pe_callS (ok__law_sign_by T) (hr.mono (by decide)) (by rfl) T.g__law_sign_by T.F__law_sign_by.kp T.b__law_sign_by (fun σ => L2N.passAt (L2N.takes_of rfl rfl rfl rfl) σ) (pa_cons (pv 4) pa_nil))) (pe_slice (sl_anyK K) (pv 1) (po_some (pv 3)) po_none)))) pss_nil)
  (pss_cons (ps_if (pt_v (op_eqK K hr.units) (pe_op op_modN (pv 2) pe_int) pe_int (nomark _)) (pss_one (ps_ret (pe_op (op_addK K) (pe_slice (sl_anyK K) (pv 1) po_none (po_some (pv 3))) (pe_slice (sl_anyK K) (pv 1) (po_some (pe_op (op_addK K) (pv 3) pe_int)) po_none)))) pss_nil)
  (pss_cons (ps_if (pt_v (op_eqK K hr.units) (pe_op op_modN (pv 2) pe_int) pe_int (nomark _)) (pss_one (ps_ret (pe_op (op_addK K) (pe_op (op_addK K) (pe_slice (sl_anyK K) (pv 1) po_none (po_some (pv 3))) (pe_callS (ok__law_sign_by T) (hr.mono (by decide)) (by rfl) T.g__law_sign_by T.F__law_sign_by.kp T.b__law_sign_by (fun σ => L2N.passAt (L2N.takes_of rfl rfl rfl rfl) σ) (pa_cons (pv 4) pa_nil))) (pe_slice (sl_anyK K) (pv 1) (po_some (pe_op (op_addK K) (pv 3) pe_int)) po_none)))) pss_nil)
  (pss_cons (ps_set (i := 5) sc__law_spoilt_by.nd rfl (Or.inl rfl) (pe_bmK K PySem.F.plainAttrs_str PySem.F.slot_str_split PySem.F.type_str_split mt_splitK (pv 1) (pa_cons pe_str pa_nil)))
  (pss_cons (ps_set (i := 6) sc__law_spoilt_by.nd rfl (Or.inl rfl) (pe_op op_modN (pv 4) (pe_callB (call_lenK K) (by rfl) T.m_len boot_len (pa_cons (pv 5) pa_nil))))
  (pss_cons (ps_set (i := 7) sc__law_spoilt_by.nd rfl (Or.inl rfl) (pe_ix (ix_seqK K) (pv 5) (pe_op op_modN (pe_op op_fdivW (pv 4) pe_int) (pe_callB (call_lenK K) (by rfl) T.m_len boot_len (pa_cons (pv 5) pa_nil))) (fun _ _ => rfl)))
  (pss_cons (ps_if (PW.pt (pw_and (pt_v (op_eqK K hr.units) (pe_op op_modN (pe_op op_fdivW (pv 2) pe_int) pe_int) pe_int (nomark _)) (pw_and1 (pt_v (op_eqK K hr.units) (pe_slice (sl_anyK K) (pv 7) (po_some (pe_un un_neg pe_int)) po_none) pe_str (nomark _))))) (pss_one (ps_set (i := 7) sc__law_spoilt_by.nd rfl (Or.inl rfl) (pe_slice (sl_anyK K) (pv 7) po_none (po_some (pe_un un_neg pe_int))))) pss_nil)
  (pss_cons (ps_if (pt_v (op_eqK K hr.units) (pe_op op_modN (pv 2) pe_int) pe_int (nomark _)) (pss_one (ps_asg (pv 7) (pg_sub (pv 5) (pv 6) set_list))) pss_nil)
  (pss_cons (ps_if (pt_v (op_eqK K hr.units) (pe_op op_modN (pv 2) pe_int) pe_int (nomark _)) (pss_one (ps_set (i := 5) sc__law_spoilt_by.nd rfl (Or.inl rfl) (pe_op (op_addK K) (pe_op (op_addK K) (pe_slice (sl_anyK K) (pv 5) po_none (po_some (pv 6))) (pe_op op_rep (pe_lst (pa_cons (pv 7) pa_nil)) (pe_op (op_addK K) pe_int (pe_op op_modN (pe_op op_fdivW (pv 2) pe_int) pe_int)))) (pe_slice (sl_anyK K) (pv 5) (po_some (pv 6)) po_none)))) pss_nil)
  (pss_one (ps_ret (pe_bmK K PySem.F.plainAttrs_str PySem.F.slot_str_join PySem.F.type_str_join mt_joinK pe_str (pa_cons (pv 5) pa_nil)))))))))))))))), ?_⟩
  exact t_of_eq (by kernel_rfl)
theorem ok__law_whole (T : Txt K mg) : FnOk P w K mg base (L2N.CX P w) 1 T.a__law_whole T.fd__law_whole ["_law_found"] (spP ⟨cz K, K⟩ pf__law_whole) :=
  fn_okXN (cm := ⟨cz K, K⟩) (B := B__law_whole) (pk := [false]) (rk := .own) (m := 0) T.F__law_whole sc__law_whole rfl rfl (by rfl) fun cdv A outer s H E hr => by
  refine ⟨_, (pss_one (ps_ret (pe_and (pe_callB (call_isiK K) (by rfl) T.m_isinstance boot_isinstance (pa_cons (pv 0) (pa_cons (pe_bltn (v := .ty "int") (by rfl) T.m_int boot_int rfl) pa_nil))) (pe_one (pe_not (pe_callB (call_isiK K) (by rfl) T.m_isinstance boot_isinstance (pa_cons (pv 0) (pa_cons (pe_bltn (v := .ty "bool") (by rfl) T.m_bool boot_bool rfl) pa_nil)))))))), ?_⟩
  exact t_of_eq (by kernel_rfl)
theorem ok__law_fits_by (T : Txt K mg) : FnOk P w K mg base (L2N.CX P w) 2 T.a__law_fits_by T.fd__law_fits_by ["_law_shape", "_law_thing"] (spP ⟨cz K, K⟩ pf__law_fits_by) :=
  fn_okXN (cm := ⟨cz K, K⟩) (B := B__law_fits_by) (pk := [false, false]) (rk := .own) (m := 3) T.F__law_fits_by sc__law_fits_by rfl rfl (by rfl) fun cdv A outer s H E hr => by
  refine ⟨_, (pss_cons (ps_if (PW.pt (pw_or (pt_not (pt_val (pe_callB (call_isiK K) (by rfl) T.m_isinstance boot_isinstance (pa_cons (pv 1) (pa_cons (pe_bltn (v := .ty "tuple") (by rfl) T.m_tuple boot_tuple rfl) pa_nil))))) (pw_or1 (pt_v (op_notInK K (hu65 hr)) (pe_callB (call_lenK K) (by rfl) T.m_len boot_len (pa_cons (pv 1) pa_nil)) (pe_tup (pa_cons pe_int (pa_cons pe_int (pa_cons pe_int (pa_cons pe_int pa_nil))))) (by rfl))))) (pss_one (ps_ret pe_bl)) pss_nil)
  (pss_cons (ps_for (passes_of rfl) rfl (pi_seqK K (pv 1)) (pg_name (i := 2) sc__law_fits_by.nd rfl (Or.inl rfl))
  (pss_cons (ps_if (PW.pt (pw_or (pt_not (pt_val (pe_callS (ok__law_whole T) (hr.mono (by decide)) (by rfl) T.g__law_whole T.F__law_whole.kp T.b__law_whole (fun σ => L2N.passAt (L2N.takes_of rfl rfl rfl rfl) σ) (pa_cons (pv 2) pa_nil)))) (pw_or (pt_v op_lt (pv 2) pe_int (nomark _)) (pw_or1 (pt_v op_ge (pv 2) (pe_callB (call_lenK K) (by rfl) T.m_len boot_len (pa_cons (pv 0) pa_nil)) (nomark _)))))) (pss_one (ps_ret pe_bl)) pss_nil)
  (pss_one (ps_if (pt_v (op_neK K hr.units) (pe_callB (call_max2 rfl) (by rfl) T.m_max boot_max (pa_cons pe_int (pa_cons (pe_callB (call_lenK K) (by rfl) T.m_len boot_len (pa_cons (pe_ix (ix_seqK K) (pv 0) (pv 2) (fun _ _ => rfl)) pa_nil)) pa_nil))) (pe_op op_sub (pe_callB (call_lenK K) (by rfl) T.m_len boot_len (pa_cons (pv 1) pa_nil)) pe_int) (nomark _)) (pss_one (ps_ret pe_bl)) pss_nil))))
  (pss_cons (ps_for (passes_of rfl) rfl (pi_range1 (by rfl) T.m_range (pa_cons (pe_callB (call_lenK K) (by rfl) T.m_len boot_len (pa_cons (pv 1) pa_nil)) pa_nil)) (pg_name (i := 3) sc__law_fits_by.nd rfl (Or.inl rfl))
  (pss_one (ps_for (passes_of rfl) rfl (pi_range1 (by rfl) T.m_range (pa_cons (pv 3) pa_nil)) (pg_name (i := 4) sc__law_fits_by.nd rfl (Or.inl rfl))
  (pss_one (ps_if (PW.pt (pw_and (pt_v op_gt (pe_callB (call_lenK K) (by rfl) T.m_len boot_len (pa_cons (pv 1) pa_nil)) pe_int (nomark _)) (pw_and1 (pt_v (op_neK K hr.units) (pe_ix (ix_seqK K) (pe_ix (ix_seqK K) (pv 0) (pe_ix (ix_seqK K) (pv 1) (pv 3) (fun _ _ => rfl)) (fun _ _ => rfl)) (pv 4) (fun _ _ => rfl)) (pe_ix (ix_seqK K) (pe_ix (ix_seqK K) (pv 0) (pe_ix (ix_seqK K) (pv 1) (pv 4) (fun _ _ => rfl)) (fun _ _ => rfl)) (pe_op op_sub (pv 3) pe_int) (fun _ _ => rfl)) (nomark _))))) (pss_one (ps_ret pe_bl)) pss_nil)))))
  (pss_one (ps_ret pe_bl))))), ?_⟩
  exact t_of_eq (by kernel_rfl)
theorem ok__law_name_is (T : Txt K mg) : FnOk P w K mg base (L2N.CX P w) 1 T.a__law_name_is T.fd__law_name_is ["_law_word"] (spP ⟨cz K, K⟩ pf__law_name_is) :=
  fn_okXN (cm := ⟨cz K, K⟩) (B := B__law_name_is) (pk := [false]) (rk := .own) (m := 1) T.F__law_name_is sc__law_name_is rfl rfl (by rfl) fun cdv A outer s H E hr => by
  refine ⟨_, (pss_cons (ps_if (PW.pt (pw_or (pt_v op_lt (pe_callB (call_lenK K) (by rfl) T.m_len boot_len (pa_cons (pv 0) pa_nil)) pe_int (nomark _)) (pw_or1 (pt_v op_gt (pe_callB (call_lenK K) (by rfl) T.m_len boot_len (pa_cons (pv 0) pa_nil)) pe_int (nomark _))))) (pss_one (ps_ret pe_bl)) pss_nil)
  (pss_cons (ps_for (passes_of rfl) rfl (pi_strK (pv 0)) (pg_name (i := 1) sc__law_name_is.nd rfl (Or.inl rfl))
  (pss_one (ps_if (pt_v op_sgNotIn (pv 1) pe_str (by rfl)) (pss_one (ps_ret pe_bl)) pss_nil)))
  (pss_one (ps_ret pe_bl)))), ?_⟩
  exact t_of_eq (by kernel_rfl)
theorem ok__law_due_of (T : Txt K mg) : FnOk P w K mg base (L2N.CX P w) 3 T.a__law_due_of T.fd__law_due_of ["_law_text"] (spP ⟨cz K, K⟩ pf__law_due_of) :=
  fn_okXN (cm := ⟨cz K, K⟩) (B := B__law_due_of) (pk := [false]) (rk := .own) (m := 6) T.F__law_due_of sc__law_due_of rfl rfl (by rfl) fun cdv A outer s H E hr => by
  refine ⟨_, (pss_cons (ps_if (pt_not (pt_val (pe_callB (call_isiK K) (by rfl) T.m_isinstance boot_isinstance (pa_cons (pv 0) (pa_cons (pe_bltn (v := .ty "str") (by rfl) T.m_str boot_str rfl) pa_nil))))) (pss_one (ps_ret (pe_tup (pa_cons pe_str (pa_cons pe_bl pa_nil))))) pss_nil)
  (pss_cons (ps_set (i := 1) sc__law_due_of.nd rfl (Or.inl rfl) (pe_lst pa_nil))
  (pss_cons (ps_if (pt_v (op_neK K hr.units) (pv 0) pe_str (nomark _)) (pss_one (ps_setLc (i := 1) (own := [("_law_row", 2)]) rfl sc__law_due_of.nd rfl rfl (sw_true rfl rfl rfl (by decide +kernel)) (pi_seqK K (pe_bmK K PySem.F.plainAttrs_str PySem.F.slot_str_split PySem.F.type_str_split mt_splitK (pv 0) (pa_cons pe_str pa_nil))) (blkOk_by (by kernel_rfl)) (fun _ _ _ _ _ => (pg_name (i := 2) sc__law_due_of.nd rfl (Or.inl rfl))) (fun _ _ _ _ _ => pts_nil) (fun _ _ _ _ _ => (pe_bmK K PySem.F.plainAttrs_str PySem.F.slot_str_split PySem.F.type_str_split mt_splitK (pv 2) (pa_cons pe_str pa_nil))))) pss_nil)
  (pss_cons (ps_for (passes_of rfl) rfl (pi_seqK K (pv 1)) (pg_name (i := 2) sc__law_due_of.nd rfl (Or.inl rfl))
  (pss_one (ps_for (passes_of rfl) rfl (pi_seqK K (pv 2)) (pg_name (i := 3) sc__law_due_of.nd rfl (Or.inl rfl))
  (pss_one (ps_if (pt_not (pt_val (pe_callS (ok__law_name_is T) (hr.mono (by decide)) (by rfl) T.g__law_name_is T.F__law_name_is.kp T.b__law_name_is (fun σ => L2N.passAt (L2N.takes_of rfl rfl rfl rfl) σ) (pa_cons (pv 3) pa_nil)))) (pss_one (ps_ret (pe_tup (pa_cons pe_str (pa_cons pe_bl pa_nil))))) pss_nil)))))
  (pss_cons (ps_set (i := 4) sc__law_due_of.nd rfl (Or.inr rfl) (pe_lst pa_nil))
  (pss_cons (ps_set (i := 5) sc__law_due_of.nd rfl (Or.inl rfl) (pe_lst pa_nil))
  (pss_cons (ps_for (passes_of rfl) rfl (pi_seqK K (pv 1)) (pg_name (i := 2) sc__law_due_of.nd rfl (Or.inl rfl))
  (pss_cons (ps_for (passes_of rfl) rfl (pi_seqK K (pe_slice (sl_anyK K) (pv 2) (po_some pe_int) po_none)) (pg_name (i := 3) sc__law_due_of.nd rfl (Or.inl rfl))
  (pss_one (ps_if (pt_v (op_notInK K (hu65 hr)) (pv 3) (pv 4) (by rfl)) (pss_one (ps_ret (pe_tup (pa_cons pe_str (pa_cons pe_bl pa_nil))))) pss_nil)))
  (pss_cons (ps_if (pt_v (op_inK K (hu65 hr)) (pe_ix (ix_seqK K) (pv 2) pe_int (fun _ _ => rfl)) (pv 4) (by rfl)) (pss_one (ps_ret (pe_tup (pa_cons pe_str (pa_cons pe_bl pa_nil))))) pss_nil)
  (pss_cons (ps_expr (pe_bmK K PySem.F.plainAttrs_list PySem.F.slot_list_append PySem.F.type_list_append mt_append (pv 5) (pa_cons (pe_callTy (call_tuple_ofK K) (by rfl) T.m_tuple boot_tuple (pa_cons (pe_lc (own := [("_law_word", 3)]) rfl sc__law_due_of.nd (pi_seqK K (pe_slice (sl_anyK K) (pv 2) (po_some pe_int) po_none)) (blkOk_by (by kernel_rfl)) (fun _ _ _ _ _ => (pg_name (i := 3) sc__law_due_of.nd rfl (Or.inl rfl))) (fun _ _ _ _ _ => pts_nil) (fun _ _ _ _ _ => (pe_bmK K PySem.F.plainAttrs_list PySem.F.slot_list_index PySem.F.type_list_index (mt_indexK K (hu65 hr)) (pv 4) (pa_cons (pv 3) pa_nil)))) pa_nil)) pa_nil)))
  (pss_one (ps_expr (pe_bmK K PySem.F.plainAttrs_list PySem.F.slot_list_append PySem.F.type_list_append mt_append (pv 4) (pa_cons (pe_ix (ix_seqK K) (pv 2) pe_int (fun _ _ => rfl)) pa_nil))))))))
  (pss_cons (ps_if (pt_v op_gt (pe_callB (call_lenK K) (by rfl) T.m_len boot_len (pa_cons (pv 5) pa_nil)) pe_int (nomark _)) (pss_one (ps_ret (pe_tup (pa_cons pe_str (pa_cons pe_bl pa_nil))))) pss_nil)
  (pss_cons (ps_for (passes_of rfl) rfl (pi_range1 (by rfl) T.m_range (pa_cons (pe_callB (call_lenK K) (by rfl) T.m_len boot_len (pa_cons (pv 5) pa_nil)) pa_nil)) (pg_name (i := 6) sc__law_due_of.nd rfl (Or.inl rfl))
  (pss_one (ps_if (pt_not (pt_val (pe_callS (ok__law_fits_by T) (hr.mono (by decide)) (by rfl) T.g__law_fits_by T.F__law_fits_by.kp T.b__law_fits_by (fun σ => L2N.passAt (L2N.takes_of rfl rfl rfl rfl) σ) (pa_cons (pe_slice (sl_anyK K) (pv 5) po_none (po_some (pv 6))) (pa_cons (pe_ix (ix_seqK K) (pv 5) (pv 6) (fun _ _ => rfl)) pa_nil))))) (pss_one (ps_ret (pe_tup (pa_cons pe_str (pa_cons pe_bl (pa_cons (pv 6) pa_nil)))))) pss_nil)))
  (pss_one (ps_ret (pe_tup (pa_cons pe_str (pa_cons (pv 5) (pa_cons (pv 4) pa_nil))))))))))))))), ?_⟩
  exact t_of_eq (by kernel_rfl)
theorem ok__law_text_by (T : Txt K mg) : FnOk P w K mg base (L2N.CX P w) 1 T.a__law_text_by T.fd__law_text_by ["_law_shape", "_law_names"] (spP ⟨cz K, K⟩ pf__law_text_by) :=
  fn_okXN (cm := ⟨cz K, K⟩) (B := B__law_text_by) (pk := [false, false]) (rk := .own) (m := 4) T.F__law_text_by sc__law_text_by rfl rfl (by rfl) fun cdv A outer s H E hr => by
  refine ⟨_, (pss_cons (ps_set (i := 2) sc__law_text_by.nd rfl (Or.inl rfl) (pe_lst pa_nil))
  (pss_cons (ps_for (passes_of rfl) rfl (pi_range1 (by rfl) T.m_range (pa_cons (pe_callB (call_lenK K) (by rfl) T.m_len boot_len (pa_cons (pv 0) pa_nil)) pa_nil)) (pg_name (i := 3) sc__law_text_by.nd rfl (Or.inl rfl))
  (pss_cons (ps_set (i := 4) sc__law_text_by.nd rfl (Or.inl rfl) (pe_ix (ix_seqK K) (pv 1) (pv 3) (fun _ _ => rfl)))
  (pss_cons (ps_for (passes_of rfl) rfl (pi_seqK K (pe_ix (ix_seqK K) (pv 0) (pv 3) (fun _ _ => rfl))) (pg_name (i := 5) sc__law_text_by.nd rfl (Or.inl rfl))
  (pss_one (ps_set (i := 4) sc__law_text_by.nd rfl (Or.inl rfl) (pe_op (op_addK K) (pe_op (op_addK K) (pv 4) pe_str) (pe_ix (ix_seqK K) (pv 1) (pv 5) (fun _ _ => rfl))))))
  (pss_one (ps_expr (pe_bmK K PySem.F.plainAttrs_list PySem.F.slot_list_append PySem.F.type_list_append mt_append (pv 2) (pa_cons (pv 4) pa_nil)))))))
  (pss_one (ps_ret (pe_bmK K PySem.F.plainAttrs_str PySem.F.slot_str_join PySem.F.type_str_join mt_joinK pe_str (pa_cons (pv 2) pa_nil)))))), ?_⟩
  exact t_of_eq (by kernel_rfl)
theorem ok_is_name (T : Txt K mg) : FnOk P w K mg base (L2N.CX P w) 1 T.a_is_name T.fd_is_name ["word"] (spP ⟨cz K, K⟩ pf_is_name) :=
  fn_okXN (cm := ⟨cz K, K⟩) (B := B_is_name) (pk := [false]) (rk := .own) (m := 1) T.F_is_name sc_is_name rfl rfl (by rfl) fun cdv A outer s H E hr => by
  refine ⟨_, (pss_cons (ps_if (PW.pt (pw_or (pt_v op_lt (pe_callB (call_lenK K) (by rfl) T.m_len boot_len (pa_cons (pv 0) pa_nil)) pe_int (nomark _)) (pw_or1 (pt_v op_gt (pe_callB (call_lenK K) (by rfl) T.m_len boot_len (pa_cons (pv 0) pa_nil)) pe_int (nomark _))))) (pss_one (ps_ret pe_bl)) pss_nil)
  (pss_cons (ps_for (passes_of rfl) rfl (pi_strK (pv 0)) (pg_name (i := 1) sc_is_name.nd rfl (Or.inl rfl))
  (pss_one (ps_if (pt_v op_sgNotIn (pv 1) (pe_glob (v := .str "abcdefghijklmnopqrstuvwxyz") rfl T.c_LETTERS ⟨_, rfl⟩) (by rfl)) (pss_one (ps_ret pe_bl)) pss_nil)))
  (pss_one (ps_ret pe_bl)))), ?_⟩
  exact t_of_eq (by kernel_rfl)
theorem ok_rows_of (T : Txt K mg) : FnOk P w K mg base (L2N.CX P w) 2 T.a_rows_of T.fd_rows_of ["thing"] (spP ⟨cz K, K⟩ pf_rows_of) :=
  fn_okXN (cm := ⟨cz K, K⟩) (B := B_rows_of) (pk := [false]) (rk := .own) (m := 4) T.F_rows_of sc_rows_of rfl rfl (by rfl) fun cdv A outer s H E hr => by
  refine ⟨_, (pss_cons (ps_if (pt_not (pt_val (pe_callB (call_isiK K) (by rfl) T.m_isinstance boot_isinstance (pa_cons (pv 0) (pa_cons (pe_bltn (v := .ty "str") (by rfl) T.m_str boot_str rfl) pa_nil))))) (pss_one (ps_raiseD T.X_f (D := "NoText") (by decide +kernel) rfl (L2N.takes_of rfl rfl rfl rfl) rfl)) pss_nil)
  (pss_cons (ps_if (pt_v (op_eqK K hr.units) (pv 0) pe_str (nomark _)) (pss_one (ps_ret (pe_lst pa_nil))) pss_nil)
  (pss_cons (ps_set (i := 1) sc_rows_of.nd rfl (Or.inl rfl) (pe_lst pa_nil))
  (pss_cons (ps_for (passes_of rfl) rfl (pi_seqK K (pe_bmK K PySem.F.plainAttrs_str PySem.F.slot_str_split PySem.F.type_str_split mt_splitK (pv 0) (pa_cons pe_str pa_nil))) (pg_name (i := 2) sc_rows_of.nd rfl (Or.inl rfl))
  (pss_cons (ps_set (i := 3) sc_rows_of.nd rfl (Or.inl rfl) (pe_bmK K PySem.F.plainAttrs_str PySem.F.slot_str_split PySem.F.type_str_split mt_splitK (pv 2) (pa_cons pe_str pa_nil)))
  (pss_cons (ps_for (passes_of rfl) rfl (pi_seqK K (pv 3)) (pg_name (i := 4) sc_rows_of.nd rfl (Or.inl rfl))
  (pss_one (ps_if (pt_not (pt_val (pe_callS (ok_is_name T) (hr.mono (by decide)) (by rfl) T.g_is_name T.F_is_name.kp T.b_is_name (fun σ => L2N.passAt (L2N.takes_of rfl rfl rfl rfl) σ) (pa_cons (pv 4) pa_nil)))) (pss_one (ps_raiseD T.X_f (D := "NoText") (by decide +kernel) rfl (L2N.takes_of rfl rfl rfl rfl) rfl)) pss_nil)))
  (pss_one (ps_expr (pe_bmK K PySem.F.plainAttrs_list PySem.F.slot_list_append PySem.F.type_list_append mt_append (pv 1) (pa_cons (pv 3) pa_nil)))))))
  (pss_one (ps_ret (pv 1))))))), ?_⟩
  exact t_of_eq (by kernel_rfl)
theorem ok_level_of (T : Txt K mg) : FnOk P w K mg base (L2N.CX P w) 1 T.a_level_of T.fd_level_of ["piece"] (spP ⟨cz K, K⟩ pf_level_of) :=
  fn_okXN (cm := ⟨cz K, K⟩) (B := B_level_of) (pk := [false]) (rk := .own) (m := 0) T.F_level_of sc_level_of rfl rfl (by rfl) fun cdv A outer s H E hr => by
  refine ⟨_, (pss_cons (ps_if (pt_v (op_eqK K hr.units) (pe_callB (call_lenK K) (by rfl) T.m_len boot_len (pa_cons (pv 0) pa_nil)) pe_int (nomark _)) (pss_one (ps_ret pe_int)) pss_nil)
  (pss_one (ps_ret (pe_op op_sub (pe_callB (call_lenK K) (by rfl) T.m_len boot_len (pa_cons (pv 0) pa_nil)) pe_int)))), ?_⟩
  exact t_of_eq (by kernel_rfl)
theorem ok_is_whole (T : Txt K mg) : FnOk P w K mg base (L2N.CX P w) 1 T.a_is_whole T.fd_is_whole ["thing"] (spP ⟨cz K, K⟩ pf_is_whole) :=
  fn_okXN (cm := ⟨cz K, K⟩) (B := B_is_whole) (pk := [false]) (rk := .own) (m := 0) T.F_is_whole sc_is_whole rfl rfl (by rfl) fun cdv A outer s H E hr => by
  refine ⟨_, (pss_one (ps_ret (pe_and (pe_callB (call_isiK K) (by rfl) T.m_isinstance boot_isinstance (pa_cons (pv 0) (pa_cons (pe_bltn (v := .ty "int") (by rfl) T.m_int boot_int rfl) pa_nil))) (pe_one (pe_not (pe_callB (call_isiK K) (by rfl) T.m_isinstance boot_isinstance (pa_cons (pv 0) (pa_cons (pe_bltn (v := .ty "bool") (by rfl) T.m_bool boot_bool rfl) pa_nil)))))))), ?_⟩
  exact t_of_eq (by kernel_rfl)
theorem ok_faces_there (T : Txt K mg) : FnOk P w K mg base (L2N.CX P w) 2 T.a_faces_there T.fd_faces_there ["shape", "piece"] (spP ⟨cz K, K⟩ pf_faces_there) :=
  fn_okXN (cm := ⟨cz K, K⟩) (B := B_faces_there) (pk := [false, false]) (rk := .own) (m := 1) T.F_faces_there sc_faces_there rfl rfl (by rfl) fun cdv A outer s H E hr => by
  refine ⟨_, (pss_cons (ps_for (passes_of rfl) rfl (pi_seqK K (pv 1)) (pg_name (i := 2) sc_faces_there.nd rfl (Or.inl rfl))
  (pss_cons (ps_if (PW.pt (pw_or (pt_not (pt_val (pe_callS (ok_is_whole T) (hr.mono (by decide)) (by rfl) T.g_is_whole T.F_is_whole.kp T.b_is_whole (fun σ => L2N.passAt (L2N.takes_of rfl rfl rfl rfl) σ) (pa_cons (pv 2) pa_nil)))) (pw_or (pt_v op_lt (pv 2) pe_int (nomark _)) (pw_or1 (pt_v op_ge (pv 2) (pe_callB (call_lenK K) (by rfl) T.m_len boot_len (pa_cons (pv 0) pa_nil)) (nomark _)))))) (pss_one (ps_ret pe_bl)) pss_nil)
  (pss_one (ps_if (pt_v (op_neK K hr.units) (pe_op (op_addK K) (pe_callS (ok_level_of T) (hr.mono (by decide)) (by rfl) T.g_level_of T.F_level_of.kp T.b_level_of (fun σ => L2N.passAt (L2N.takes_of rfl rfl rfl rfl) σ) (pa_cons (pe_ix (ix_seqK K) (pv 0) (pv 2) (fun _ _ => rfl)) pa_nil)) pe_int) (pe_callS (ok_level_of T) (hr.mono (by decide)) (by rfl) T.g_level_of T.F_level_of.kp T.b_level_of (fun σ => L2N.passAt (L2N.takes_of rfl rfl rfl rfl) σ) (pa_cons (pv 1) pa_nil)) (nomark _)) (pss_one (ps_ret pe_bl)) pss_nil))))
  (pss_one (ps_ret pe_bl))), ?_⟩
  exact t_of_eq (by kernel_rfl)
theorem ok_faces_meet (T : Txt K mg) : FnOk P w K mg base (L2N.CX P w) 1 T.a_faces_meet T.fd_faces_meet ["shape", "piece"] (spP ⟨cz K, K⟩ pf_faces_meet) :=
  fn_okXN (cm := ⟨cz K, K⟩) (B := B_faces_meet) (pk := [false, false]) (rk := .own) (m := 2) T.F_faces_meet sc_faces_meet rfl rfl (by rfl) fun cdv A outer s H E hr => by
  refine ⟨_, (pss_cons (ps_if (pt_v op_lt (pe_callB (call_lenK K) (by rfl) T.m_len boot_len (pa_cons (pv 1) pa_nil)) pe_int (nomark _)) (pss_one (ps_ret pe_bl)) pss_nil)
  (pss_cons (ps_for (passes_of rfl) rfl (pi_range1 (by rfl) T.m_range (pa_cons (pe_callB (call_lenK K) (by rfl) T.m_len boot_len (pa_cons (pv 1) pa_nil)) pa_nil)) (pg_name (i := 2) sc_faces_meet.nd rfl (Or.inl rfl))
  (pss_one (ps_for (passes_of rfl) rfl (pi_range1 (by rfl) T.m_range (pa_cons (pv 2) pa_nil)) (pg_name (i := 3) sc_faces_meet.nd rfl (Or.inl rfl))
  (pss_one (ps_if (pt_v (op_neK K hr.units) (pe_ix (ix_seqK K) (pe_ix (ix_seqK K) (pv 0) (pe_ix (ix_seqK K) (pv 1) (pv 2) (fun _ _ => rfl)) (fun _ _ => rfl)) (pv 3) (fun _ _ => rfl)) (pe_ix (ix_seqK K) (pe_ix (ix_seqK K) (pv 0) (pe_ix (ix_seqK K) (pv 1) (pv 3) (fun _ _ => rfl)) (fun _ _ => rfl)) (pe_op op_sub (pv 2) pe_int) (fun _ _ => rfl)) (nomark _)) (pss_one (ps_ret pe_bl)) pss_nil)))))
  (pss_one (ps_ret pe_bl)))), ?_⟩
  exact t_of_eq (by kernel_rfl)
theorem ok_fits (T : Txt K mg) : FnOk P w K mg base (L2N.CX P w) 3 T.a_fits T.fd_fits ["shape", "thing"] (spP ⟨cz K, K⟩ pf_fits) :=
  fn_okXN (cm := ⟨cz K, K⟩) (B := B_fits) (pk := [false, false]) (rk := .own) (m := 0) T.F_fits sc_fits rfl rfl (by rfl) fun cdv A outer s H E hr => by
  refine ⟨_, (pss_cons (ps_if (PW.pt (pw_or (pt_not (pt_val (pe_callB (call_isiK K) (by rfl) T.m_isinstance boot_isinstance (pa_cons (pv 1) (pa_cons (pe_bltn (v := .ty "tuple") (by rfl) T.m_tuple boot_tuple rfl) pa_nil))))) (pw_or1 (pt_v (op_notInK K (hu65 hr)) (pe_callB (call_lenK K) (by rfl) T.m_len boot_len (pa_cons (pv 1) pa_nil)) (pe_tup (pa_cons pe_int (pa_cons pe_int (pa_cons pe_int (pa_cons pe_int pa_nil))))) (by rfl))))) (pss_one (ps_ret pe_bl)) pss_nil)
  (pss_one (ps_ret (pe_and (pe_callS (ok_faces_there T) (hr.mono (by decide)) (by rfl) T.g_faces_there T.F_faces_there.kp T.b_faces_there (fun σ => L2N.passAt (L2N.takes_of rfl rfl rfl rfl) σ) (pa_cons (pv 0) (pa_cons (pv 1) pa_nil))) (pe_one (pe_callS (ok_faces_meet T) (hr.mono (by decide)) (by rfl) T.g_faces_meet T.F_faces_meet.kp T.b_faces_meet (fun σ => L2N.passAt (L2N.takes_of rfl rfl rfl rfl) σ) (pa_cons (pv 0) (pa_cons (pv 1) pa_nil)))))))), ?_⟩
  exact t_of_eq (by kernel_rfl)
theorem ok_first_bad (T : Txt K mg) : FnOk P w K mg base (L2N.CX P w) 4 T.a_first_bad T.fd_first_bad ["pieces"] (spP ⟨cz K, K⟩ pf_first_bad) :=
  fn_okXN (cm := ⟨cz K, K⟩) (B := B_first_bad) (pk := [false]) (rk := .own) (m := 2) T.F_first_bad sc_first_bad rfl rfl (by rfl) fun cdv A outer s H E hr => by
  refine ⟨_, (pss_cons (ps_set (i := 1) sc_first_bad.nd rfl (Or.inl rfl) (pe_lst pa_nil))
  (pss_cons (ps_for (passes_of rfl) rfl (pi_seqK K (pv 0)) (pg_name (i := 2) sc_first_bad.nd rfl (Or.inl rfl))
  (pss_cons (ps_if (pt_not (pt_val (pe_callS (ok_fits T) (hr.mono (by decide)) (by rfl) T.g_fits T.F_fits.kp T.b_fits (fun σ => L2N.passAt (L2N.takes_of rfl rfl rfl rfl) σ) (pa_cons (pv 1) (pa_cons (pv 2) pa_nil))))) (pss_one (ps_ret (pe_callB (call_lenK K) (by rfl) T.m_len boot_len (pa_cons (pv 1) pa_nil)))) pss_nil)
  (pss_one (ps_expr (pe_bmK K PySem.F.plainAttrs_list PySem.F.slot_list_append PySem.F.type_list_append mt_append (pv 1) (pa_cons (pv 2) pa_nil))))))
  (pss_one (ps_ret pe_non)))), ?_⟩
  exact t_of_eq (by kernel_rfl)
theorem ok_shape_of (T : Txt K mg) : FnOk P w K mg base (L2N.CX P w) 5 T.a_shape_of T.fd_shape_of ["thing"] (spP ⟨cz K, K⟩ pf_shape_of) :=
  fn_okXN (cm := ⟨cz K, K⟩) (B := B_shape_of) (pk := [false]) (rk := .own) (m := 1) T.F_shape_of sc_shape_of rfl rfl (by rfl) fun cdv A outer s H E hr => by
  refine ⟨_, (pss_cons (ps_if (PW.pt (pw_or (pt_not (pt_val (pe_callB (call_isiK K) (by rfl) T.m_isinstance boot_isinstance (pa_cons (pv 0) (pa_cons (pe_bltn (v := .ty "list") (by rfl) T.m_list boot_list rfl) pa_nil))))) (pw_or1 (pt_v op_gt (pe_callB (call_lenK K) (by rfl) T.m_len boot_len (pa_cons (pv 0) pa_nil)) (pe_glob (v := .int 40) rfl T.c_MOST ⟨_, rfl⟩) (nomark _))))) (pss_one (ps_raiseD T.X_f (D := "NoShape") (by decide +kernel) rfl (L2N.takes_of rfl rfl rfl rfl) rfl)) pss_nil)
  (pss_cons (ps_set (i := 1) sc_shape_of.nd rfl (Or.inl rfl) (pe_callS (ok_first_bad T) (hr.mono (by decide)) (by rfl) T.g_first_bad T.F_first_bad.kp T.b_first_bad (fun σ => L2N.passAt (L2N.takes_of rfl rfl rfl rfl) σ) (pa_cons (pv 0) pa_nil)))
  (pss_cons (ps_if (pt_v op_notN (pv 1) pe_non (nomark _)) (pss_one (ps_raiseI (f := "place") T.O_NoPiece (okI_NoPiece T) (hr.mono (by decide)) T.bi_NoPiece rfl (L2N.takes_of rfl rfl rfl rfl) rfl (pv 1))) pss_nil)
  (pss_one (ps_ret (pe_callTy (call_list_ofK K) (by rfl) T.m_list boot_list (pa_cons (pv 0) pa_nil))))))), ?_⟩
  exact t_of_eq (by kernel_rfl)
theorem ok_read (T : Txt K mg) : FnOk P w K mg base (L2N.CX P w) 6 T.a_read T.fd_read ["thing"] (spP ⟨cz K, K⟩ pf_read) :=
  fn_okXN (cm := ⟨cz K, K⟩) (B := B_read) (pk := [false]) (rk := .own) (m := 6) T.F_read sc_read rfl rfl (by rfl) fun cdv A outer s H E hr => by
  refine ⟨_, (pss_cons (ps_set (i := 1) sc_read.nd rfl (Or.inl rfl) pe_dnewK)
  (pss_cons (ps_set (i := 2) sc_read.nd rfl (Or.inl rfl) (pe_lst pa_nil))
  (pss_cons (ps_set (i := 3) sc_read.nd rfl (Or.inl rfl) (pe_lst pa_nil))
  (pss_cons (ps_for (passes_of rfl) rfl (pi_seqK K (pe_callS (ok_rows_of T) (hr.mono (by decide)) (by rfl) T.g_rows_of T.F_rows_of.kp T.b_rows_of (fun σ => L2N.passAt (L2N.takes_of rfl rfl rfl rfl) σ) (pa_cons (pv 0) pa_nil))) (pg_name (i := 4) sc_read.nd rfl (Or.inl rfl))
  (pss_cons (ps_if (pt_cmp (pc_din (hu1 hr) (pe_ix (ix_seqK K) (pv 4) pe_int (fun _ _ => rfl)) (pv 1)) (by rfl)) (pss_one (ps_raiseD T.X_f (D := "NoName") (by decide +kernel) rfl (L2N.takes_of rfl rfl rfl rfl) rfl)) pss_nil)
  (pss_cons (ps_set (i := 5) sc_read.nd rfl (Or.inl rfl) (pe_lst pa_nil))
  (pss_cons (ps_for (passes_of rfl) rfl (pi_seqK K (pe_slice (sl_anyK K) (pv 4) (po_some pe_int) po_none)) (pg_name (i := 6) sc_read.nd rfl (Or.inl rfl))
  (pss_cons (ps_if (pt_cmp (pc_dnotin (hu1 hr) (pv 6) (pv 1)) (by rfl)) (pss_one (ps_raiseD T.X_f (D := "NoName") (by decide +kernel) rfl (L2N.takes_of rfl rfl rfl rfl) rfl)) pss_nil)
  (pss_one (ps_expr (pe_bmK K PySem.F.plainAttrs_list PySem.F.slot_list_append PySem.F.type_list_append mt_append (pv 5) (pa_cons (pe_dget (hu1 hr) (pv 1) (pv 6) (fun _ _ => rfl)) pa_nil))))))
  (pss_cons (ps_dput (hu1 hr) (pv 1) (pe_ix (ix_seqK K) (pv 4) pe_int (fun _ _ => rfl)) (pe_callB (call_lenK K) (by rfl) T.m_len boot_len (pa_cons (pv 2) pa_nil)) (by rfl))
  (pss_cons (ps_expr (pe_bmK K PySem.F.plainAttrs_list PySem.F.slot_list_append PySem.F.type_list_append mt_append (pv 2) (pa_cons (pe_ix (ix_seqK K) (pv 4) pe_int (fun _ _ => rfl)) pa_nil)))
  (pss_one (ps_expr (pe_bmK K PySem.F.plainAttrs_list PySem.F.slot_list_append PySem.F.type_list_append mt_append (pv 3) (pa_cons (pe_callTy (call_tuple_ofK K) (by rfl) T.m_tuple boot_tuple (pa_cons (pv 5) pa_nil)) pa_nil))))))))))
  (pss_one (ps_ret (pe_tup (pa_cons (pe_callS (ok_shape_of T) (hr.mono (by decide)) (by rfl) T.g_shape_of T.F_shape_of.kp T.b_shape_of (fun σ => L2N.passAt (L2N.takes_of rfl rfl rfl rfl) σ) (pa_cons (pv 3) pa_nil)) (pa_cons (pv 2) pa_nil))))))))), ?_⟩
  exact t_of_eq (by kernel_rfl)
theorem ok__law_alone (T : Txt K mg) : FnP P w K mg base (L2N.CX P w) 1 T.a__law_alone T.fd__law_alone ["_law_error"] (spXG (cmX K) xDs r__law_alone) :=
  fn_okPG T.F__law_alone sc__law_alone (fun _ => rfl) fun cdv A outer s H E p n dd pl hn hz hf hun =>
  (pss_asgKn (j := 1) (by decide) sc__law_alone.nd rfl (Or.inl rfl) (pe_addKn (pe_addKn (pe_intKn (tt := fun _ _ _ _ => True) (pf := ⟨0, 0, 0, 0⟩) (fun ha => pe_callTy call_int1 (by rfl) T.m_int boot_int ha) (pe_isKn T.X_f hn hz hf (List.mem_singleton.mpr rfl) (by decide +kernel) (by decide +kernel) (pv 0) rfl T.m_isinstance rfl)) (pe_intKn (tt := fun _ _ _ _ => True) (pf := ⟨0, 0, 0, 0⟩) (fun ha => pe_callTy call_int1 (by rfl) T.m_int boot_int ha) (pe_isKn T.X_f hn hz hf (List.mem_singleton.mpr rfl) (by decide +kernel) (by decide +kernel) (pv 0) rfl T.m_isinstance rfl))) (pe_intKn (tt := fun _ _ _ _ => True) (pf := ⟨0, 0, 0, 0⟩) (fun ha => pe_callTy call_int1 (by rfl) T.m_int boot_int ha) (pe_isKn T.X_f hn hz hf (List.mem_singleton.mpr rfl) (by decide +kernel) (by decide +kernel) (pv 0) rfl T.m_isinstance rfl)))
  (pss_asgKn (j := 1) (by decide) sc__law_alone.nd rfl (Or.inl rfl) (pe_addKn (pe_varKn (pv 1)) (pe_intKn (tt := fun _ _ _ _ => True) (pf := ⟨0, 0, 0, 0⟩) (fun ha => pe_callTy call_int1 (by rfl) T.m_int boot_int ha) (pe_isKn T.X_f hn hz hf (List.mem_singleton.mpr rfl) (by decide +kernel) (by decide +kernel) (pv 0) rfl T.m_isinstance rfl)))
  (pss_retKn (pe_andKn (pe_eqKn hun (pe_varKn (pv 1)) (pe_atomKn (d := .int 1) pe_int rfl) (nomark _)) (pe_andKn (pe_isKn T.X_f hn hz hf (List.mem_singleton.mpr rfl) (by decide +kernel) (by decide +kernel) (pv 0) rfl T.m_isinstance rfl) (pe_one (pe_isKnV T.X_f hn hz hf (List.mem_singleton.mpr rfl) (by decide +kernel) (pv 0) rfl T.m_isinstance rfl T.m_ValueError)))))))
theorem ok__law_told_by (T : Txt K mg) : FnOk P w K mg base (L2N.CX P w) 7 T.a__law_told_by T.fd__law_told_by ["_law_text"] (spP ⟨cz K, K⟩ pf__law_told_by) :=
  fn_okXN (cm := ⟨cz K, K⟩) (B := B__law_told_by) (pk := [false]) (rk := .own) (m := 3) T.F__law_told_by sc__law_told_by rfl rfl (by rfl) fun cdv A outer s H E hr => by
  refine ⟨_, (pss_cons (ps_set (i := 1) sc__law_told_by.nd rfl (Or.inl rfl) pe_non)
  (pss_cons (ps_set (i := 2) sc__law_told_by.nd rfl (Or.inl rfl) pe_non)
  (pss_cons (ps_tryM (cm := ⟨cz K, K⟩) (hs := [("NoText", r__law_told_by_1), ("NoName", r__law_told_by_2), ("NoShape", r__law_told_by_3), ("NoPiece", r__law_told_by_4)]) (fun _ => rfl) T.X_f (by decide +kernel) rfl rfl sc__law_told_by.nd (i := 3) rfl rfl (L2N.takes_of rfl rfl rfl rfl) (fun W pn xe tk ps => pss_one (ps_set (i := 1) sc__law_told_by.nd rfl (Or.inl rfl) (pe_callS (ok_read T) (hr.mono (by decide)) (by rfl) T.g_read T.F_read.kp T.b_read (fun σ => L2N.passAt tk σ) (pa_cons (pv 0) pa_nil)))) (hd_cons T.X_f (by decide +kernel) (by decide +kernel) rfl sc__law_told_by.nd (j := 2) rfl (Or.inl rfl) (.inr rfl) (fun a oe pn n dd pl dv hn hi hq hz hf => by cases hq; exact (pe_tupG (pa_consG (pe_offG (pe_atomD (d := .str "text") pe_str rfl)) (pa_consG (pe_callPG (ok__law_alone T) (fun _ => rfl) (hr.mono (by decide)) hn hz hf (pv 3) rfl T.g__law_alone T.F__law_alone.kp T.b__law_alone) pa_nilG (by unfold r__law_alone; rw [immD])) (by rw [immD])) (by show 2 ≤ sizeLine; decide)))
   (hd_cons T.X_f (by decide +kernel) (by decide +kernel) rfl sc__law_told_by.nd (j := 2) rfl (Or.inl rfl) (.inr rfl) (fun a oe pn n dd pl dv hn hi hq hz hf => by cases hq; exact (pe_tupG (pa_consG (pe_offG (pe_atomD (d := .str "name") pe_str rfl)) (pa_consG (pe_callPG (ok__law_alone T) (fun _ => rfl) (hr.mono (by decide)) hn hz hf (pv 3) rfl T.g__law_alone T.F__law_alone.kp T.b__law_alone) pa_nilG (by unfold r__law_alone; rw [immD])) (by rw [immD])) (by show 2 ≤ sizeLine; decide)))
   (hd_cons T.X_f (by decide +kernel) (by decide +kernel) rfl sc__law_told_by.nd (j := 2) rfl (Or.inl rfl) (.inr rfl) (fun a oe pn n dd pl dv hn hi hq hz hf => by cases hq; exact (pe_tupG (pa_consG (pe_offG (pe_atomD (d := .str "shape") pe_str rfl)) (pa_consG (pe_callPG (ok__law_alone T) (fun _ => rfl) (hr.mono (by decide)) hn hz hf (pv 3) rfl T.g__law_alone T.F__law_alone.kp T.b__law_alone) pa_nilG (by unfold r__law_alone; rw [immD])) (by rw [immD])) (by show 2 ≤ sizeLine; decide)))
   (hd_cons T.X_f (by decide +kernel) (by decide +kernel) rfl sc__law_told_by.nd (j := 2) rfl (Or.inl rfl) (.inr rfl) (fun a oe pn n dd pl dv hn hi hq hz hf => by obtain ⟨d, rfl, him, rfl⟩ := fldR_of hq; exact (pe_tupG (pa_consG (pe_offG (pe_atomD (d := .str "piece") pe_str rfl)) (pa_consG (pe_callPG (ok__law_alone T) (fun _ => rfl) (hr.mono (by decide)) hn hz hf (pv 3) rfl T.g__law_alone T.F__law_alone.kp T.b__law_alone) (pa_consG (pe_fldG T.O_NoPiece T.X_f hn (xIs_only hi (by decide +kernel) (by decide +kernel)) hz hf him (pv 3)) pa_nilG him) (by unfold r__law_alone; rw [immD])) (by rw [immD])) (by show 3 ≤ sizeLine; decide)))
   hd_nil)))))
  (pss_cons (ps_if (pt_v op_isN (pv 2) pe_non (nomark _)) (pss_cons (ps_if (PW.pt (pw_or (pt_not (pt_val (pe_callB (call_isiK K) (by rfl) T.m_isinstance boot_isinstance (pa_cons (pv 1) (pa_cons (pe_bltn (v := .ty "tuple") (by rfl) T.m_tuple boot_tuple rfl) pa_nil))))) (pw_or1 (pt_v (op_neK K hr.units) (pe_callB (call_lenK K) (by rfl) T.m_len boot_len (pa_cons (pv 1) pa_nil)) pe_int (nomark _))))) (pss_one (ps_ret (pe_tup (pa_cons pe_str pa_nil)))) pss_nil)
  (pss_one (ps_ret (pe_tup (pa_cons pe_str (pa_cons (pe_ix (ix_seqK K) (pv 1) pe_int (fun _ _ => rfl)) (pa_cons (pe_ix (ix_seqK K) (pv 1) pe_int (fun _ _ => rfl)) pa_nil))))))) pss_nil)
  (pss_cons (ps_if (PW.pt (pw_and (pt_v (op_eqK K hr.units) (pe_ix (ix_seqK K) (pv 2) pe_int (fun _ _ => rfl)) pe_str (nomark _)) (pw_and1 (pt_not (pt_val (pe_callS (ok__law_whole T) (hr.mono (by decide)) (by rfl) T.g__law_whole T.F__law_whole.kp T.b__law_whole (fun σ => L2N.passAt (L2N.takes_of rfl rfl rfl rfl) σ) (pa_cons (pe_ix (ix_seqK K) (pv 2) pe_int (fun _ _ => rfl)) pa_nil))))))) (pss_one (ps_ret (pe_tup (pa_cons pe_str pa_nil)))) pss_nil)
  (pss_one (ps_ret (pv 2)))))))), ?_⟩
  exact t_of_eq (by kernel_rfl)
theorem ok_law (T : Txt K mg) : FnOk P w K mg base CX0 8 T.a_law T.fd_law ["_law_script"] (fun vs H Q _ => spP ⟨cz K, K⟩ pf_law vs H Q fun _ _ _ => False) :=
  fn_ok0 (cm := ⟨cz K, K⟩) (B := B_law) (pk := [false]) (rk := .own) (m := 5) T.F_law sc_law rfl rfl (by rfl) fun cdv A outer s H E hr => by
  refine ⟨_, (pss_cons (ps_set (i := 1) sc_law.nd rfl (Or.inl rfl) (pe_callS (ok__law_shape_by T) (hr.mono (by decide)) (by rfl) T.g__law_shape_by T.F__law_shape_by.kp T.b__law_shape_by (fun σ => L2N.passAt takes0N σ) (pa_cons (pe_callS (ok__law_cell_at T) (hr.mono (by decide)) (by rfl) T.g__law_cell_at T.F__law_cell_at.kp T.b__law_cell_at (fun σ => L2N.passAt takes0N σ) (pa_cons (pv 0) (pa_cons pe_int pa_nil))) (pa_cons (pe_slice (sl_anyK K) (pv 0) (po_some pe_int) (po_some pe_int)) (pa_cons pe_int pa_nil)))))
  (pss_cons (ps_set (i := 2) sc_law.nd rfl (Or.inl rfl) (pe_callS (ok__law_names_by T) (hr.mono (by decide)) (by rfl) T.g__law_names_by T.F__law_names_by.kp T.b__law_names_by (fun σ => L2N.passAt takes0N σ) (pa_cons (pe_callS (ok__law_cell_at T) (hr.mono (by decide)) (by rfl) T.g__law_cell_at T.F__law_cell_at.kp T.b__law_cell_at (fun σ => L2N.passAt takes0N σ) (pa_cons (pv 0) (pa_cons pe_int pa_nil))) (pa_cons (pe_callB (call_lenK K) (by rfl) T.m_len boot_len (pa_cons (pv 1) pa_nil)) pa_nil))))
  (pss_cons (ps_set (i := 3) sc_law.nd rfl (Or.inl rfl) (pe_callS (ok__law_spoilt_by T) (hr.mono (by decide)) (by rfl) T.g__law_spoilt_by T.F__law_spoilt_by.kp T.b__law_spoilt_by (fun σ => L2N.passAt takes0N σ) (pa_cons (pv 0) (pa_cons (pe_callS (ok__law_text_by T) (hr.mono (by decide)) (by rfl) T.g__law_text_by T.F__law_text_by.kp T.b__law_text_by (fun σ => L2N.passAt takes0N σ) (pa_cons (pv 1) (pa_cons (pv 2) pa_nil))) pa_nil))))
  (pss_cons (ps_if (pt_v (op_eqK K hr.units) (pe_op op_modN (pe_op op_fdivW (pe_callS (ok__law_cell_at T) (hr.mono (by decide)) (by rfl) T.g__law_cell_at T.F__law_cell_at.kp T.b__law_cell_at (fun σ => L2N.passAt takes0N σ) (pa_cons (pv 0) (pa_cons pe_int pa_nil))) pe_int) pe_int) pe_int (nomark _)) (pss_one (ps_for PassesOwn.never rfl (pi_seqK K (pe_slice (sl_anyK K) (pe_tup (pa_cons pe_str (pa_cons pe_str (pa_cons pe_str (pa_cons pe_str pa_nil))))) po_none (po_some (pe_op op_modN (pe_callS (ok__law_cell_at T) (hr.mono (by decide)) (by rfl) T.g__law_cell_at T.F__law_cell_at.kp T.b__law_cell_at (fun σ => L2N.passAt takes0N σ) (pa_cons (pv 0) (pa_cons pe_int pa_nil))) pe_int)))) (pg_name (i := 4) sc_law.nd rfl (Or.inl rfl))
  (pss_one (ps_set (i := 3) sc_law.nd rfl (Or.inl rfl) (pe_op (op_addK K) (pe_op (op_addK K) (pv 3) pe_str) (pv 4)))))) pss_nil)
  (pss_cons (ps_if (pt_v (op_eqK K hr.units) (pe_op op_modN (pe_op op_fdivW (pe_callS (ok__law_cell_at T) (hr.mono (by decide)) (by rfl) T.g__law_cell_at T.F__law_cell_at.kp T.b__law_cell_at (fun σ => L2N.passAt takes0N σ) (pa_cons (pv 0) (pa_cons pe_int pa_nil))) pe_int) pe_int) pe_int (nomark _)) (pss_one (ps_set (i := 3) sc_law.nd rfl (Or.inl rfl) (pe_ix (ix_seqK K) (pe_tup (pa_cons pe_non (pa_cons pe_int (pa_cons (pe_lst (pa_cons pe_str pa_nil)) (pa_cons (pe_tup (pa_cons pe_str pa_nil)) (pa_cons pe_dnewK pa_nil)))))) (pe_op op_modN (pe_callS (ok__law_cell_at T) (hr.mono (by decide)) (by rfl) T.g__law_cell_at T.F__law_cell_at.kp T.b__law_cell_at (fun σ => L2N.passAt takes0N σ) (pa_cons (pv 0) (pa_cons pe_int pa_nil))) pe_int) (fun _ _ => rfl)))) pss_nil)
  (pss_cons (ps_set (i := 5) sc_law.nd rfl (Or.inl rfl) (pe_callS (ok__law_due_of T) (hr.mono (by decide)) (by rfl) T.g__law_due_of T.F__law_due_of.kp T.b__law_due_of (fun σ => L2N.passAt takes0N σ) (pa_cons (pv 3) pa_nil)))
  (pss_one (ps_ret (pe_and (pe_cmpR (op_eqK K hr.units) (pe_callS (ok__law_told_by T) (hr.mono (by decide)) (by rfl) T.g__law_told_by T.F__law_told_by.kp T.b__law_told_by (fun σ => L2N.passAt takes0N σ) (pa_cons (pv 3) pa_nil)) (pv 5) (nomark _)) (pe_one (pe_cmpR (op_eqK K hr.units) (pe_callS (ok__law_told_by T) (hr.mono (by decide)) (by rfl) T.g__law_told_by T.F__law_told_by.kp T.b__law_told_by (fun σ => L2N.passAt takes0N σ) (pa_cons (pv 3) pa_nil)) (pv 5) (nomark _)))))))))))), ?_⟩
  exact t_of_eq (by kernel_rfl)
end
theorem all_mk {l : PySem.W.OpenLaw} {w : World} {K : PySem.W.Frag} {h : Heap} {mg : Str → Option Value} {fa f0 f1 f2 f3 f4 f5 f6 f7 f8 f9 f10 f11 f12 f13 f14 f15 f16 f17 f18 f19 f20 f21 f22 f23 f24 f25 f26 : Addr} (X : K.In h) (G : h.Ns mainGlobals mg) (hfa : mg "law" = some (.ref fa))
    {od0 an0 od1 an1 od2 an2 od3 an3 od4 an4 od5 an5 od6 an6 od7 an7 od8 an8 od9 an9 od10 an10 od11 an11 od12 an12 od13 an13 od14 an14 od15 an15 od16 an16 od17 an17 od18 an18 od19 an19 od20 an20 od21 an21 od22 an22 od23 an23 od24 an24 od25 an25 od26 an26 : Option Addr} {sl0 sl1 sl2 sl3 sl4 sl5 sl6 sl7 sl8 sl9 sl10 sl11 sl12 sl13 sl14 sl15 sl16 sl17 sl18 sl19 sl20 sl21 sl22 sl23 sl24 sl25 sl26 : Array (Option Value)} {oc0 kV0 dc0 pm0 cd0 ct0 oc1 kV1 dc1 pm1 cd1 ct1 oc2 kV2 dc2 pm2 cd2 ct2 oc3 kV3 dc3 pm3 cd3 ct3 oc4 kV4 dc4 pm4 cd4 ct4 oc5 kV5 dc5 pm5 cd5 ct5 oc6 kV6 dc6 pm6 cd6 ct6 oc7 kV7 dc7 pm7 cd7 ct7 oc8 kV8 dc8 pm8 cd8 ct8 oc9 kV9 dc9 pm9 cd9 ct9 oc10 kV10 dc10 pm10 cd10 ct10 oc11 kV11 dc11 pm11 cd11 ct11 oc12 kV12 dc12 pm12 cd12 ct12 oc13 kV13 dc13 pm13 cd13 ct13 oc14 kV14 dc14 pm14 cd14 ct14 oc15 kV15 dc15 pm15 cd15 ct15 oc16 kV16 dc16 pm16 cd16 ct16 oc17 kV17 dc17 pm17 cd17 ct17 oc18 kV18 dc18 pm18 cd18 ct18 oc19 kV19 dc19 pm19 cd19 ct19 oc20 kV20 dc20 pm20 cd20 ct20 oc21 kV21 dc21 pm21 cd21 ct21 oc22 kV22 dc22 pm22 cd22 ct22 oc23 kV23 dc23 pm23 cd23 ct23 oc24 kV24 dc24 pm24 cd24 ct24 oc25 kV25 dc25 pm25 cd25 ct25 oc26 kV26 dc26 pm26 cd26 ct26 : Value}
    (a0 : PySem.W.nsIn K mainGlobals "_law_faces_by" = some (some (.ref f0))) (l0 : K.lookup f0 = some ⟨oc0, od0, .func (PySem.W.fnOf "_law_faces_by" "_law_faces_by" (defArgs s__law_faces_by) (defBody s__law_faces_by) (defScope s__law_faces_by) .none kV0 dc0 pm0 an0 cd0 ct0), sl0⟩) (c0 : PySem.W.codeIn K cd0 "_law_faces_by" = true) (k0 : PySem.W.keepIn K (.ref f0) = true)
    (a1 : PySem.W.nsIn K mainGlobals "_law_words_with" = some (some (.ref f1))) (l1 : K.lookup f1 = some ⟨oc1, od1, .func (PySem.W.fnOf "_law_words_with" "_law_words_with" (defArgs s__law_words_with) (defBody s__law_words_with) (defScope s__law_words_with) .none kV1 dc1 pm1 an1 cd1 ct1), sl1⟩) (c1 : PySem.W.codeIn K cd1 "_law_words_with" = true) (k1 : PySem.W.keepIn K (.ref f1) = true)
    (a2 : PySem.W.nsIn K mainGlobals "_law_word_by" = some (some (.ref f2))) (l2 : K.lookup f2 = some ⟨oc2, od2, .func (PySem.W.fnOf "_law_word_by" "_law_word_by" (defArgs s__law_word_by) (defBody s__law_word_by) (defScope s__law_word_by) .none kV2 dc2 pm2 an2 cd2 ct2), sl2⟩) (c2 : PySem.W.codeIn K cd2 "_law_word_by" = true) (k2 : PySem.W.keepIn K (.ref f2) = true)
    (a3 : PySem.W.nsIn K mainGlobals "_law_shape_by" = some (some (.ref f3))) (l3 : K.lookup f3 = some ⟨oc3, od3, .func (PySem.W.fnOf "_law_shape_by" "_law_shape_by" (defArgs s__law_shape_by) (defBody s__law_shape_by) (defScope s__law_shape_by) .none kV3 dc3 pm3 an3 cd3 ct3), sl3⟩) (c3 : PySem.W.codeIn K cd3 "_law_shape_by" = true) (k3 : PySem.W.keepIn K (.ref f3) = true)
    (a4 : PySem.W.nsIn K mainGlobals "_law_name_by" = some (some (.ref f4))) (l4 : K.lookup f4 = some ⟨oc4, od4, .func (PySem.W.fnOf "_law_name_by" "_law_name_by" (defArgs s__law_name_by) (defBody s__law_name_by) (defScope s__law_name_by) .none kV4 dc4 pm4 an4 cd4 ct4), sl4⟩) (c4 : PySem.W.codeIn K cd4 "_law_name_by" = true) (k4 : PySem.W.keepIn K (.ref f4) = true)
    (a5 : PySem.W.nsIn K mainGlobals "_law_names_by" = some (some (.ref f5))) (l5 : K.lookup f5 = some ⟨oc5, od5, .func (PySem.W.fnOf "_law_names_by" "_law_names_by" (defArgs s__law_names_by) (defBody s__law_names_by) (defScope s__law_names_by) .none kV5 dc5 pm5 an5 cd5 ct5), sl5⟩) (c5 : PySem.W.codeIn K cd5 "_law_names_by" = true) (k5 : PySem.W.keepIn K (.ref f5) = true)
    (a6 : PySem.W.nsIn K mainGlobals "_law_cell_at" = some (some (.ref f6))) (l6 : K.lookup f6 = some ⟨oc6, od6, .func (PySem.W.fnOf "_law_cell_at" "_law_cell_at" (defArgs s__law_cell_at) (defBody s__law_cell_at) (defScope s__law_cell_at) .none kV6 dc6 pm6 an6 cd6 ct6), sl6⟩) (c6 : PySem.W.codeIn K cd6 "_law_cell_at" = true) (k6 : PySem.W.keepIn K (.ref f6) = true)
    (a7 : PySem.W.nsIn K mainGlobals "_law_sign_by" = some (some (.ref f7))) (l7 : K.lookup f7 = some ⟨oc7, od7, .func (PySem.W.fnOf "_law_sign_by" "_law_sign_by" (defArgs s__law_sign_by) (defBody s__law_sign_by) (defScope s__law_sign_by) .none kV7 dc7 pm7 an7 cd7 ct7), sl7⟩) (c7 : PySem.W.codeIn K cd7 "_law_sign_by" = true) (k7 : PySem.W.keepIn K (.ref f7) = true)
    (a8 : PySem.W.nsIn K mainGlobals "_law_spoilt_by" = some (some (.ref f8))) (l8 : K.lookup f8 = some ⟨oc8, od8, .func (PySem.W.fnOf "_law_spoilt_by" "_law_spoilt_by" (defArgs s__law_spoilt_by) (defBody s__law_spoilt_by) (defScope s__law_spoilt_by) .none kV8 dc8 pm8 an8 cd8 ct8), sl8⟩) (c8 : PySem.W.codeIn K cd8 "_law_spoilt_by" = true) (k8 : PySem.W.keepIn K (.ref f8) = true)
    (a9 : PySem.W.nsIn K mainGlobals "_law_whole" = some (some (.ref f9))) (l9 : K.lookup f9 = some ⟨oc9, od9, .func (PySem.W.fnOf "_law_whole" "_law_whole" (defArgs s__law_whole) (defBody s__law_whole) (defScope s__law_whole) .none kV9 dc9 pm9 an9 cd9 ct9), sl9⟩) (c9 : PySem.W.codeIn K cd9 "_law_whole" = true) (k9 : PySem.W.keepIn K (.ref f9) = true)
    (a10 : PySem.W.nsIn K mainGlobals "_law_fits_by" = some (some (.ref f10))) (l10 : K.lookup f10 = some ⟨oc10, od10, .func (PySem.W.fnOf "_law_fits_by" "_law_fits_by" (defArgs s__law_fits_by) (defBody s__law_fits_by) (defScope s__law_fits_by) .none kV10 dc10 pm10 an10 cd10 ct10), sl10⟩) (c10 : PySem.W.codeIn K cd10 "_law_fits_by" = true) (k10 : PySem.W.keepIn K (.ref f10) = true)
    (a11 : PySem.W.nsIn K mainGlobals "_law_name_is" = some (some (.ref f11))) (l11 : K.lookup f11 = some ⟨oc11, od11, .func (PySem.W.fnOf "_law_name_is" "_law_name_is" (defArgs s__law_name_is) (defBody s__law_name_is) (defScope s__law_name_is) .none kV11 dc11 pm11 an11 cd11 ct11), sl11⟩) (c11 : PySem.W.codeIn K cd11 "_law_name_is" = true) (k11 : PySem.W.keepIn K (.ref f11) = true)
    (a12 : PySem.W.nsIn K mainGlobals "_law_due_of" = some (some (.ref f12))) (l12 : K.lookup f12 = some ⟨oc12, od12, .func (PySem.W.fnOf "_law_due_of" "_law_due_of" (defArgs s__law_due_of) (defBody s__law_due_of) (defScope s__law_due_of) .none kV12 dc12 pm12 an12 cd12 ct12), sl12⟩) (c12 : PySem.W.codeIn K cd12 "_law_due_of" = true) (k12 : PySem.W.keepIn K (.ref f12) = true)
    (a13 : PySem.W.nsIn K mainGlobals "_law_text_by" = some (some (.ref f13))) (l13 : K.lookup f13 = some ⟨oc13, od13, .func (PySem.W.fnOf "_law_text_by" "_law_text_by" (defArgs s__law_text_by) (defBody s__law_text_by) (defScope s__law_text_by) .none kV13 dc13 pm13 an13 cd13 ct13), sl13⟩) (c13 : PySem.W.codeIn K cd13 "_law_text_by" = true) (k13 : PySem.W.keepIn K (.ref f13) = true)
    (a14 : PySem.W.nsIn K mainGlobals "is_name" = some (some (.ref f14))) (l14 : K.lookup f14 = some ⟨oc14, od14, .func (PySem.W.fnOf "is_name" "is_name" (defArgs s_is_name) (defBody s_is_name) (defScope s_is_name) .none kV14 dc14 pm14 an14 cd14 ct14), sl14⟩) (c14 : PySem.W.codeIn K cd14 "is_name" = true) (k14 : PySem.W.keepIn K (.ref f14) = true)
    (a15 : PySem.W.nsIn K mainGlobals "rows_of" = some (some (.ref f15))) (l15 : K.lookup f15 = some ⟨oc15, od15, .func (PySem.W.fnOf "rows_of" "rows_of" (defArgs s_rows_of) (defBody s_rows_of) (defScope s_rows_of) .none kV15 dc15 pm15 an15 cd15 ct15), sl15⟩) (c15 : PySem.W.codeIn K cd15 "rows_of" = true) (k15 : PySem.W.keepIn K (.ref f15) = true)
    (a16 : PySem.W.nsIn K mainGlobals "level_of" = some (some (.ref f16))) (l16 : K.lookup f16 = some ⟨oc16, od16, .func (PySem.W.fnOf "level_of" "level_of" (defArgs s_level_of) (defBody s_level_of) (defScope s_level_of) .none kV16 dc16 pm16 an16 cd16 ct16), sl16⟩) (c16 : PySem.W.codeIn K cd16 "level_of" = true) (k16 : PySem.W.keepIn K (.ref f16) = true)
    (a17 : PySem.W.nsIn K mainGlobals "is_whole" = some (some (.ref f17))) (l17 : K.lookup f17 = some ⟨oc17, od17, .func (PySem.W.fnOf "is_whole" "is_whole" (defArgs s_is_whole) (defBody s_is_whole) (defScope s_is_whole) .none kV17 dc17 pm17 an17 cd17 ct17), sl17⟩) (c17 : PySem.W.codeIn K cd17 "is_whole" = true) (k17 : PySem.W.keepIn K (.ref f17) = true)
    (a18 : PySem.W.nsIn K mainGlobals "faces_there" = some (some (.ref f18))) (l18 : K.lookup f18 = some ⟨oc18, od18, .func (PySem.W.fnOf "faces_there" "faces_there" (defArgs s_faces_there) (defBody s_faces_there) (defScope s_faces_there) .none kV18 dc18 pm18 an18 cd18 ct18), sl18⟩) (c18 : PySem.W.codeIn K cd18 "faces_there" = true) (k18 : PySem.W.keepIn K (.ref f18) = true)
    (a19 : PySem.W.nsIn K mainGlobals "faces_meet" = some (some (.ref f19))) (l19 : K.lookup f19 = some ⟨oc19, od19, .func (PySem.W.fnOf "faces_meet" "faces_meet" (defArgs s_faces_meet) (defBody s_faces_meet) (defScope s_faces_meet) .none kV19 dc19 pm19 an19 cd19 ct19), sl19⟩) (c19 : PySem.W.codeIn K cd19 "faces_meet" = true) (k19 : PySem.W.keepIn K (.ref f19) = true)
    (a20 : PySem.W.nsIn K mainGlobals "fits" = some (some (.ref f20))) (l20 : K.lookup f20 = some ⟨oc20, od20, .func (PySem.W.fnOf "fits" "fits" (defArgs s_fits) (defBody s_fits) (defScope s_fits) .none kV20 dc20 pm20 an20 cd20 ct20), sl20⟩) (c20 : PySem.W.codeIn K cd20 "fits" = true) (k20 : PySem.W.keepIn K (.ref f20) = true)
    (a21 : PySem.W.nsIn K mainGlobals "first_bad" = some (some (.ref f21))) (l21 : K.lookup f21 = some ⟨oc21, od21, .func (PySem.W.fnOf "first_bad" "first_bad" (defArgs s_first_bad) (defBody s_first_bad) (defScope s_first_bad) .none kV21 dc21 pm21 an21 cd21 ct21), sl21⟩) (c21 : PySem.W.codeIn K cd21 "first_bad" = true) (k21 : PySem.W.keepIn K (.ref f21) = true)
    (a22 : PySem.W.nsIn K mainGlobals "shape_of" = some (some (.ref f22))) (l22 : K.lookup f22 = some ⟨oc22, od22, .func (PySem.W.fnOf "shape_of" "shape_of" (defArgs s_shape_of) (defBody s_shape_of) (defScope s_shape_of) .none kV22 dc22 pm22 an22 cd22 ct22), sl22⟩) (c22 : PySem.W.codeIn K cd22 "shape_of" = true) (k22 : PySem.W.keepIn K (.ref f22) = true)
    (a23 : PySem.W.nsIn K mainGlobals "read" = some (some (.ref f23))) (l23 : K.lookup f23 = some ⟨oc23, od23, .func (PySem.W.fnOf "read" "read" (defArgs s_read) (defBody s_read) (defScope s_read) .none kV23 dc23 pm23 an23 cd23 ct23), sl23⟩) (c23 : PySem.W.codeIn K cd23 "read" = true) (k23 : PySem.W.keepIn K (.ref f23) = true)
    (a24 : PySem.W.nsIn K mainGlobals "_law_alone" = some (some (.ref f24))) (l24 : K.lookup f24 = some ⟨oc24, od24, .func (PySem.W.fnOf "_law_alone" "_law_alone" (defArgs s__law_alone) (defBody s__law_alone) (defScope s__law_alone) .none kV24 dc24 pm24 an24 cd24 ct24), sl24⟩) (c24 : PySem.W.codeIn K cd24 "_law_alone" = true) (k24 : PySem.W.keepIn K (.ref f24) = true)
    (a25 : PySem.W.nsIn K mainGlobals "_law_told_by" = some (some (.ref f25))) (l25 : K.lookup f25 = some ⟨oc25, od25, .func (PySem.W.fnOf "_law_told_by" "_law_told_by" (defArgs s__law_told_by) (defBody s__law_told_by) (defScope s__law_told_by) .none kV25 dc25 pm25 an25 cd25 ct25), sl25⟩) (c25 : PySem.W.codeIn K cd25 "_law_told_by" = true) (k25 : PySem.W.keepIn K (.ref f25) = true)
    (a26 : PySem.W.nsIn K mainGlobals "law" = some (some (.ref f26))) (l26 : K.lookup f26 = some ⟨oc26, od26, .func (PySem.W.fnOf "law" "law" (defArgs s_law) (defBody s_law) (defScope s_law) .none kV26 dc26 pm26 an26 cd26 ct26), sl26⟩) (c26 : PySem.W.codeIn K cd26 "law" = true) (k26 : PySem.W.keepIn K (.ref f26) = true)
    (z_ValueError : PySem.W.nsIn K mainGlobals "ValueError" = some none)
    (z_bool : PySem.W.nsIn K mainGlobals "bool" = some none)
    (z_int : PySem.W.nsIn K mainGlobals "int" = some none)
    (z_isinstance : PySem.W.nsIn K mainGlobals "isinstance" = some none)
    (z_len : PySem.W.nsIn K mainGlobals "len" = some none)
    (z_list : PySem.W.nsIn K mainGlobals "list" = some none)
    (z_max : PySem.W.nsIn K mainGlobals "max" = some none)
    (z_range : PySem.W.nsIn K mainGlobals "range" = some none)
    (z_str : PySem.W.nsIn K mainGlobals "str" = some none)
    (z_tuple : PySem.W.nsIn K mainGlobals "tuple" = some none)
    {t_MOST : Tok} (z_MOST : PySem.W.nsIn K mainGlobals "MOST" = some (some (.int 40 t_MOST)))
    {t_LETTERS : Tok} (z_LETTERS : PySem.W.nsIn K mainGlobals "LETTERS" = some (some (.str "abcdefghijklmnopqrstuvwxyz" t_LETTERS)))
    (x0 : xFactsB K xDs xCs = true)
    {fc_NoPiece fi_NoPiece : Addr} {odi_NoPiece ani_NoPiece : Option Addr} {sli_NoPiece : Array (Option Value)} {oci_NoPiece kVi_NoPiece dci_NoPiece pmi_NoPiece cdi_NoPiece cti_NoPiece : Value} (nc_NoPiece : PySem.W.nsIn K mainGlobals "NoPiece" = some (some (.ref fc_NoPiece))) (ni_NoPiece : PySem.W.findIn K (.ref fc_NoPiece) "__init__" = some (some (.ref fi_NoPiece))) (li_NoPiece : K.lookup fi_NoPiece = some ⟨oci_NoPiece, odi_NoPiece, .func (PySem.W.fnOf "__init__" "NoPiece.__init__" (defArgs i_NoPiece) (defBody i_NoPiece) (defScope i_NoPiece) .none kVi_NoPiece dci_NoPiece pmi_NoPiece ani_NoPiece cdi_NoPiece cti_NoPiece), sli_NoPiece⟩) (ci_NoPiece : PySem.W.codeIn K cdi_NoPiece "NoPiece.__init__" = true) (ki_NoPiece : PySem.W.keepIn K (.ref fi_NoPiece) = true) (xo_NoPiece : xOwnB K "NoPiece" "place" = true) :
    ∃ fd : FuncData, (∀ (s : Shared) (v : Value), BindsTo s fd ⟨[v], []⟩ [("_law_script", v)]) ∧ ∀ base : Heap, K.In base → base.Ns mainGlobals mg → FnOk l.prog w K mg base CX0 8 fa fd ["_law_script"] (fun vs H Q _ => spP (cmX K) pf_law vs H Q fun _ _ _ => False) := by
  have e := hfa.symm.trans (PySem.W.mg_of X G a26)
  cases e
  have F0 := fun_mk (st := s__law_faces_by) l0 c0 k0
  have b0 := F0.binds (ps := ["_law_word", "_law_family"]) fun _ _ _ _ _ _ us hl => match us, hl with | [_, _], _ => rfl
  have F1 := fun_mk (st := s__law_words_with) l1 c1 k1
  have b1 := F1.binds (ps := ["_law_words", "_law_word", "_law_family"]) fun _ _ _ _ _ _ us hl => match us, hl with | [_, _, _], _ => rfl
  have F2 := fun_mk (st := s__law_word_by) l2 c2 k2
  have b2 := F2.binds (ps := ["_law_cell", "_law_family", "_law_letters"]) fun _ _ _ _ _ _ us hl => match us, hl with | [_, _, _], _ => rfl
  have F3 := fun_mk (st := s__law_shape_by) l3 c3 k3
  have b3 := F3.binds (ps := ["_law_kind", "_law_cells", "_law_most"]) fun _ _ _ _ _ _ us hl => match us, hl with | [_, _, _], _ => rfl
  have F4 := fun_mk (st := s__law_name_by) l4 c4 k4
  have b4 := F4.binds (ps := ["_law_number", "_law_stem"]) fun _ _ _ _ _ _ us hl => match us, hl with | [_, _], _ => rfl
  have F5 := fun_mk (st := s__law_names_by) l5 c5 k5
  have b5 := F5.binds (ps := ["_law_cell", "_law_many"]) fun _ _ _ _ _ _ us hl => match us, hl with | [_, _], _ => rfl
  have F6 := fun_mk (st := s__law_cell_at) l6 c6 k6
  have b6 := F6.binds (ps := ["_law_script", "_law_k"]) fun _ _ _ _ _ _ us hl => match us, hl with | [_, _], _ => rfl
  have F7 := fun_mk (st := s__law_sign_by) l7 c7 k7
  have b7 := F7.binds (ps := ["_law_cell"]) fun _ _ _ _ _ _ us hl => match us, hl with | [_], _ => rfl
  have F8 := fun_mk (st := s__law_spoilt_by) l8 c8 k8
  have b8 := F8.binds (ps := ["_law_script", "_law_text"]) fun _ _ _ _ _ _ us hl => match us, hl with | [_, _], _ => rfl
  have F9 := fun_mk (st := s__law_whole) l9 c9 k9
  have b9 := F9.binds (ps := ["_law_found"]) fun _ _ _ _ _ _ us hl => match us, hl with | [_], _ => rfl
  have F10 := fun_mk (st := s__law_fits_by) l10 c10 k10
  have b10 := F10.binds (ps := ["_law_shape", "_law_thing"]) fun _ _ _ _ _ _ us hl => match us, hl with | [_, _], _ => rfl
  have F11 := fun_mk (st := s__law_name_is) l11 c11 k11
  have b11 := F11.binds (ps := ["_law_word"]) fun _ _ _ _ _ _ us hl => match us, hl with | [_], _ => rfl
  have F12 := fun_mk (st := s__law_due_of) l12 c12 k12
  have b12 := F12.binds (ps := ["_law_text"]) fun _ _ _ _ _ _ us hl => match us, hl with | [_], _ => rfl
  have F13 := fun_mk (st := s__law_text_by) l13 c13 k13
  have b13 := F13.binds (ps := ["_law_shape", "_law_names"]) fun _ _ _ _ _ _ us hl => match us, hl with | [_, _], _ => rfl
  have F14 := fun_mk (st := s_is_name) l14 c14 k14
  have b14 := F14.binds (ps := ["word"]) fun _ _ _ _ _ _ us hl => match us, hl with | [_], _ => rfl
  have F15 := fun_mk (st := s_rows_of) l15 c15 k15
  have b15 := F15.binds (ps := ["thing"]) fun _ _ _ _ _ _ us hl => match us, hl with | [_], _ => rfl
  have F16 := fun_mk (st := s_level_of) l16 c16 k16
  have b16 := F16.binds (ps := ["piece"]) fun _ _ _ _ _ _ us hl => match us, hl with | [_], _ => rfl
  have F17 := fun_mk (st := s_is_whole) l17 c17 k17
  have b17 := F17.binds (ps := ["thing"]) fun _ _ _ _ _ _ us hl => match us, hl with | [_], _ => rfl
  have F18 := fun_mk (st := s_faces_there) l18 c18 k18
  have b18 := F18.binds (ps := ["shape", "piece"]) fun _ _ _ _ _ _ us hl => match us, hl with | [_, _], _ => rfl
  have F19 := fun_mk (st := s_faces_meet) l19 c19 k19
  have b19 := F19.binds (ps := ["shape", "piece"]) fun _ _ _ _ _ _ us hl => match us, hl with | [_, _], _ => rfl
  have F20 := fun_mk (st := s_fits) l20 c20 k20
  have b20 := F20.binds (ps := ["shape", "thing"]) fun _ _ _ _ _ _ us hl => match us, hl with | [_, _], _ => rfl
  have F21 := fun_mk (st := s_first_bad) l21 c21 k21
  have b21 := F21.binds (ps := ["pieces"]) fun _ _ _ _ _ _ us hl => match us, hl with | [_], _ => rfl
  have F22 := fun_mk (st := s_shape_of) l22 c22 k22
  have b22 := F22.binds (ps := ["thing"]) fun _ _ _ _ _ _ us hl => match us, hl with | [_], _ => rfl
  have F23 := fun_mk (st := s_read) l23 c23 k23
  have b23 := F23.binds (ps := ["thing"]) fun _ _ _ _ _ _ us hl => match us, hl with | [_], _ => rfl
  have F24 := fun_mk (st := s__law_alone) l24 c24 k24
  have b24 := F24.binds (ps := ["_law_error"]) fun _ _ _ _ _ _ us hl => match us, hl with | [_], _ => rfl
  have F25 := fun_mk (st := s__law_told_by) l25 c25 k25
  have b25 := F25.binds (ps := ["_law_text"]) fun _ _ _ _ _ _ us hl => match us, hl with | [_], _ => rfl
  have F26 := fun_mk (st := s_law) l26 c26 k26
  have b26 := F26.binds (ps := ["_law_script"]) fun _ _ _ _ _ _ us hl => match us, hl with | [_], _ => rfl
  have ei_NoPiece : iniA K "NoPiece" = fi_NoPiece := by
    have ea : clsA K "NoPiece" = fc_NoPiece := by unfold clsA; rw [nc_NoPiece]
    unfold iniA; rw [ea, ni_NoPiece]
  have FI_NoPiece := fun_mk (st := i_NoPiece) li_NoPiece ci_NoPiece ki_NoPiece
  have bI_NoPiece := FI_NoPiece.binds (ps := ["self", "place"]) fun _ _ _ _ _ _ us hl => match us, hl with | [_, _], _ => rfl
  rw [← ei_NoPiece] at FI_NoPiece
  let T : Txt K mg := ⟨f0, _, F0, PySem.W.mg_of X G a0, b0, f1, _, F1, PySem.W.mg_of X G a1, b1, f2, _, F2, PySem.W.mg_of X G a2, b2, f3, _, F3, PySem.W.mg_of X G a3, b3, f4, _, F4, PySem.W.mg_of X G a4, b4, f5, _, F5, PySem.W.mg_of X G a5, b5, f6, _, F6, PySem.W.mg_of X G a6, b6, f7, _, F7, PySem.W.mg_of X G a7, b7, f8, _, F8, PySem.W.mg_of X G a8, b8, f9, _, F9, PySem.W.mg_of X G a9, b9, f10, _, F10, PySem.W.mg_of X G a10, b10, f11, _, F11, PySem.W.mg_of X G a11, b11, f12, _, F12, PySem.W.mg_of X G a12, b12, f13, _, F13, PySem.W.mg_of X G a13, b13, f14, _, F14, PySem.W.mg_of X G a14, b14, f15, _, F15, PySem.W.mg_of X G a15, b15, f16, _, F16, PySem.W.mg_of X G a16, b16, f17, _, F17, PySem.W.mg_of X G a17, b17, f18, _, F18, PySem.W.mg_of X G a18, b18, f19, _, F19, PySem.W.mg_of X G a19, b19, f20, _, F20, PySem.W.mg_of X G a20, b20, f21, _, F21, PySem.W.mg_of X G a21, b21, f22, _, F22, PySem.W.mg_of X G a22, b22, f23, _, F23, PySem.W.mg_of X G a23, b23, f24, _, F24, PySem.W.mg_of X G a24, b24, f25, _, F25, PySem.W.mg_of X G a25, b25, fa, _, F26, PySem.W.mg_of X G a26, b26, PySem.W.mg_none_of X G z_ValueError, PySem.W.mg_none_of X G z_bool, PySem.W.mg_none_of X G z_int, PySem.W.mg_none_of X G z_isinstance, PySem.W.mg_none_of X G z_len, PySem.W.mg_none_of X G z_list, PySem.W.mg_none_of X G z_max, PySem.W.mg_none_of X G z_range, PySem.W.mg_none_of X G z_str, PySem.W.mg_none_of X G z_tuple, t_MOST, PySem.W.mg_of X G z_MOST, t_LETTERS, PySem.W.mg_of X G z_LETTERS, xf_mk X G x0, xo_mk X G xo_NoPiece, _, FI_NoPiece, bI_NoPiece⟩
  exact ⟨PySem.W.fnOf "law" "law" (defArgs s_law) (defBody s_law) (defScope s_law) .none kV26 dc26 pm26 an26 cd26 ct26, fun s v => .of_eq rfl, fun base _ _ => ok_law T⟩
end DLP

set_option maxRecDepth 100000
set_option maxHeartbeats 4000000
namespace DLP
open PySem PySem.Spec PyProof.Rows L2 DL
theorem F_cell (ns : List Int) (k : Int) (h : 0 ≤ k) : pf__law_cell_at.F [.scr (ns.map .int), .int k] = some (.ok (.int (ns.getD k.toNat 0))) := by
  simp [pf__law_cell_at, runD_eq, B__law_cell_at]
  by_cases h1 : k < ns.length
  · rw [if_pos h1, atI_of h (by simpa using h1)]
    have : k.toNat < ns.length := by omega
    simp [this]
  · rw [if_neg h1]
    have : ns.length ≤ k.toNat := by omega
    simp [this]
theorem find_none {α : Type} (xs : List α) : xs.find? (fun _ => false) = none := by
  induction xs with
  | nil => rfl
  | cons x xs ih => simpa using ih
theorem len_ok {h : Nat} (hh : h ≤ 2000) : h ≤ sizeLine := by simp [szl]; omega
theorem len_lt {h : Nat} (hh : h ≤ 2000) : h < sizeLine := by simp [szl]; omega
theorem small_fmod (c : Int) (n : Nat) (hn : 0 < n) : ∃ a : Nat, a < n ∧ c.fmod n = a := by
  have h1 := Int.emod_nonneg c (show (n : Int) ≠ 0 by omega)
  have h2 := Int.emod_lt_of_pos c (show (0 : Int) < n by omega)
  exact ⟨(c % n).toNat, by omega, by rw [fmod_pos (by omega)]; omega⟩
/-! ### faces of words -/
def facesBy (fam : Int) (w : List Int) : List (List Int) :=
  if fam = 0 then (if w.length < 2 then [] else (List.range w.length).map fun i => w.take i ++ w.drop (i + 1))
  else if w.length = 0 then []
  else if fam < 0 then (if w.length = 1 then [[], []] else w.map fun x => [x])
  else w.drop 1 :: (((List.range (w.length - 1)).map fun i => w.take i ++ [(w.getD i 0 + w.getD (i + 1) 0).fmod fam] ++ w.drop (i + 2)) ++ [w.take (w.length - 1)])
theorem F_faces_by (fam : Int) (w : List Int) (hl : w.length ≤ 10) : pf__law_faces_by.F [wordE w, .int fam] = some (.ok (wordsE (facesBy fam w))) := by
  have s1 : 1 ≤ sizeLine := by decide
  have s2 : 2 ≤ sizeLine := by decide
  unfold facesBy
  by_cases h0 : fam = 0
  · subst h0
    by_cases h2 : w.length < 2
    · have h2' : (w.length : Int) < 2 := by omega
      simp [pf__law_faces_by, runD_eq, B__law_faces_by, wordE_len, h2, h2', wordsE]
    · have h2' : ¬ (w.length : Int) < 2 := by omega
      have key := compD_all (α := Nat) (β := List Int) (bind := (XG.n 3).f) (e := (XE.add true (.sl false (.var 0) .no (.e (.var 3))) (.sl false (.var 0) (.e (.add false (.var 3) (.kI 1))) .no)).f) (env := [some (wordE w), some (.int 0), some (.int (w.length : Int)), none, none, none])
        natE (fun i => w.take i ++ w.drop (i + 1)) wordE (List.range w.length) (by rw [List.length_range]; exact len_ok (by omega)) (by
          intro i hi
          have hi' := List.mem_range.mp hi
          refine ⟨_, rfl, ?_⟩
          have l : (w.take i).length + (w.drop (i + 1)).length ≤ sizeLine := by simp [szl]; omega
          have t1 := wordE_to false w i
          have t2 : slF false (wordE w) (some ((i : Int) + 1)) none = _ := wordE_from false w (i + 1)
          simp only [add_f, sl_f, var_f, ono_f, oe_f, kI_f]
          simp [natE, t1, t2, wordE_add _ _ _ l])
      simp [pf__law_faces_by, runD_eq, B__law_faces_by, wordE_len, h2, h2', c__law_faces_by_1, rg1F_of (j := (w.length : Int)) (inB_mk (by omega) (by omega)), rgD_nat, wipeE] at key ⊢
      rw [key]
      simp [wordsE, Function.comp_def]
  · by_cases h1 : w.length = 0
    · have h1' : (w.length : Int) = 0 := by omega
      simp [pf__law_faces_by, runD_eq, B__law_faces_by, wordE_len, h0, h1, wordsE]
    · have h1' : ¬ w = [] := fun z => h1 (by rw [z]; rfl)
      by_cases h3 : fam < 0
      · by_cases h4 : w.length = 1
        · simp [pf__law_faces_by, runD_eq, B__law_faces_by, wordE_len, h0, h3, h4, wordsE, s2, wordE]
        · have h4' : ¬ (w.length : Int) = 1 := by omega
          have key := compD_all (α := Int) (β := List Int) (bind := (XG.n 5).f) (e := (XE.tup (.cons (.imm (.var 5)) .nil)).f) (env := [some (wordE w), some (.int fam), some (.int (w.length : Int)), none, none, none])
            D.int (fun x => [x]) wordE w (len_ok (by omega)) (by
              intro x hx
              refine ⟨_, rfl, ?_⟩
              simp [s1, wordE])
          have sq : seqF false (wordE w) = some (.ok (w.map .int)) := by simp [seqF, wordE]
          simp [pf__law_faces_by, runD_eq, B__law_faces_by, wordE_len, h0, h1', h3, h4, h4', c__law_faces_by_2, sq, wipeE] at key ⊢
          rw [key]
          simp [wordsE, Function.comp_def]
      · have hp : 0 < fam := by omega
        have key := forD_push (α := Nat) (bind := (XG.n 3).f) (l := [3]) (body := b__law_faces_by_1.f) (fun acc => [some (wordE w), some (.int fam), some (.int (w.length : Int)), none, some (.lst acc), none])
          natE (fun i => wordE (w.take i ++ [(w.getD i 0 + w.getD (i + 1) 0).fmod fam] ++ w.drop (i + 2))) (List.range (w.length - 1)) [wordE (w.drop 1)] (by
            intro acc i hi hs
            have hi' := List.mem_range.mp hi
            refine ⟨_, rfl, [some (wordE w), some (.int fam), some (.int (w.length : Int)), some (natE i), some (.lst (acc ++ [wordE (w.take i ++ [(w.getD i 0 + w.getD (i + 1) 0).fmod fam] ++ w.drop (i + 2))])), none], .inl ?_, rfl⟩
            have l1 : (w.take i).length + ([(w.getD i 0 + w.getD (i + 1) 0).fmod fam] : List Int).length ≤ sizeLine := by simp [szl]; omega
            have l2 : (w.take i ++ [(w.getD i 0 + w.getD (i + 1) 0).fmod fam]).length + (w.drop (i + 2)).length ≤ sizeLine := by simp [szl]; omega
            have m := mod_g (i := w.getD i 0 + w.getD (i + 1) 0) (j := fam) (by omega)
            have i1 := wordE_ix w i (by omega)
            have i2 : ixF (wordE w) (.int ((i : Int) + 1)) = some (.ok (.int (w.getD (i + 1) 0))) := wordE_ix w (i + 1) (by omega)
            have t1 := wordE_to false w i
            have t2 : slF false (wordE w) (some ((i : Int) + 2)) none = _ := wordE_from false w (i + 2)
            have a1 := wordE_add false _ _ l1
            have a2 := wordE_add true _ _ l2
            generalize w.getD i 0 = p at *
            generalize w.getD (i + 1) 0 = q at *
            rw [← wordE_one] at a1
            generalize w.take i ++ [(p + q).fmod fam] = r at *
            simp only [b__law_faces_by_1, app_s]
            simp [natE, t1, t2, i1, i2, m, s1, a1, a2, hs]) (by simp [szl]; omega)
        have e : ((w.length : Int) - 1) = ((w.length - 1 : Nat) : Int) := by omega
        have t1 := wordE_from true w 1
        have t2 : slF true (wordE w) none (some ((w.length : Int) - 1)) = some (.ok (wordE (w.take (w.length - 1)))) := by rw [e]; exact wordE_to true w (w.length - 1)
        have l3 : (wordE (w.drop 1) :: ((List.range (w.length - 1)).map fun i => wordE (w.take i ++ [(w.getD i 0 + w.getD (i + 1) 0).fmod fam] ++ w.drop (i + 2)))).length < sizeLine := by simp [szl]; omega
        simp at t1
        simp only [List.cons_append, List.nil_append] at key
        simp only [pf__law_faces_by, runD_eq, B__law_faces_by, l__law_faces_by_1]
        simp [wordE_len, h0, h1', h3, rg1F_of (j := ((w.length - 1 : Nat) : Int)) (inB_mk (by omega) (by omega)), e, t1, s1, rgD_nat]
        simp at key l3
        rw [key]
        simp [l3, t2, wordsE, Function.comp_def]
/-! ### words closed under faces -/
def newIn (ws : List (List Int)) (b : List (List Int)) (f : List Int) : List (List Int) := if f ∈ ws ∨ f ∈ b then b else b ++ [f]
theorem mem_newIn (ws : List (List Int)) : ∀ (xs b : List (List Int)) (x : List Int), x ∈ xs.foldl (newIn ws) b ↔ x ∈ b ∨ (x ∈ xs ∧ x ∉ ws)
  | [], b, x => by simp
  | f :: xs, b, x => by
    rw [List.foldl_cons, mem_newIn ws xs]
    unfold newIn
    split
    · next h =>
      constructor
      · rintro (h1 | ⟨h1, h2⟩)
        · exact .inl h1
        · exact .inr ⟨List.mem_cons_of_mem _ h1, h2⟩
      · rintro (h1 | ⟨h1, h2⟩)
        · exact .inl h1
        · rcases List.mem_cons.mp h1 with rfl | h1
          · exact .inl (h.resolve_left h2)
          · exact .inr ⟨h1, h2⟩
    · next h =>
      constructor
      · rintro (h1 | ⟨h1, h2⟩)
        · rcases List.mem_append.mp h1 with h1 | h1
          · exact .inl h1
          · obtain rfl := List.mem_singleton.mp h1
            exact .inr ⟨List.mem_cons_self, fun z => h (.inl z)⟩
        · exact .inr ⟨List.mem_cons_of_mem _ h1, h2⟩
      · rintro (h1 | ⟨h1, h2⟩)
        · exact .inl (List.mem_append_left _ h1)
        · rcases List.mem_cons.mp h1 with rfl | h1
          · exact .inl (List.mem_append_right _ (List.mem_singleton.mpr rfl))
          · exact .inr ⟨h1, h2⟩
theorem len_newIn (ws : List (List Int)) : ∀ (xs b : List (List Int)), (xs.foldl (newIn ws) b).length ≤ b.length + xs.length
  | [], b => Nat.le_refl _
  | f :: xs, b => by
    rw [List.foldl_cons]
    have := len_newIn ws xs (newIn ws b f)
    have h : (newIn ws b f).length ≤ b.length + 1 := by
      unfold newIn; split
      · omega
      · simp
    rw [List.length_cons]; omega
def layerOf (ws : List (List Int)) (fam : Int) (layer : List (List Int)) : List (List Int) := layer.foldl (fun b one => (facesBy fam one).foldl (newIn ws) b) []
theorem layer_flat (ws : List (List Int)) (fam : Int) : ∀ (layer b : List (List Int)), layer.foldl (fun b one => (facesBy fam one).foldl (newIn ws) b) b = (layer.flatMap (facesBy fam)).foldl (newIn ws) b
  | [], b => rfl
  | x :: xs, b => by rw [List.foldl_cons, List.flatMap_cons, List.foldl_append, layer_flat ws fam xs]
theorem mem_layerOf {ws : List (List Int)} {fam : Int} {layer : List (List Int)} {x : List Int} : x ∈ layerOf ws fam layer ↔ (∃ one ∈ layer, x ∈ facesBy fam one) ∧ x ∉ ws := by
  unfold layerOf
  rw [layer_flat, mem_newIn]
  simp [List.mem_flatMap]
theorem len_faces (fam : Int) (w : List Int) : (facesBy fam w).length ≤ w.length + 1 := by
  unfold facesBy
  split
  · split <;> simp
  split
  · simp
  split
  · split
    · next h => simp [h]
    · simp
  · simp
    omega
/-- how long words are, so many layers down -/
def Sz (fam : Int) (k : Nat) (w : List Int) : Prop := (fam = 0 → w.length + k ≤ 4) ∧ (fam < 0 → w.length ≤ 3 ∧ (k = 1 → w.length ≤ 1) ∧ (2 ≤ k → w.length = 0) ∧ w.length ≠ 2) ∧ (0 < fam → w.length + k ≤ 3)
theorem Sz.le {fam : Int} {k : Nat} {w : List Int} (h : Sz fam k w) : w.length ≤ 4 := by
  obtain ⟨h1, h2, h3⟩ := h
  rcases Int.lt_trichotomy fam 0 with h | h | h
  · have := h2 h; omega
  · have := h1 h; omega
  · have := h3 h; omega
theorem Sz.face {fam : Int} {k : Nat} {w f : List Int} (h : Sz fam k w) (hf : f ∈ facesBy fam w) : Sz fam (k + 1) f := by
  obtain ⟨h1, h2, h3⟩ := h
  unfold facesBy at hf
  split at hf
  · next h0 =>
    have := h1 h0
    split at hf
    · simp at hf
    · next hl =>
      simp at hf
      obtain ⟨i, hi, rfl⟩ := hf
      refine ⟨fun _ => ?_, fun z => by omega, fun z => by omega⟩
      simp; omega
  split at hf
  · simp at hf
  · next h0 hl =>
    split at hf
    · next hn =>
      obtain ⟨a, b, c, _⟩ := h2 hn
      refine ⟨fun z => absurd z h0, fun _ => ?_, fun z => by omega⟩
      split at hf
      · simp at hf; subst hf; simp
      · simp at hf
        obtain ⟨x, hx, rfl⟩ := hf
        refine ⟨by simp, fun _ => by simp, fun z => ?_, by simp⟩
        have : k = 0 ∨ k = 1 ∨ 2 ≤ k := by omega
        rcases this with r | r | r
        · omega
        · have := b r; omega
        · have := c r; omega
    · next hn =>
      have hp : 0 < fam := by omega
      have := h3 hp
      refine ⟨fun z => absurd z h0, fun z => absurd z hn, fun _ => ?_⟩
      rcases List.mem_cons.mp hf with rfl | hf
      · simp; omega
      · rcases List.mem_append.mp hf with hf | hf
        · simp at hf
          obtain ⟨i, hi, rfl⟩ := hf
          simp; omega
        · simp at hf; subst hf
          simp; omega
theorem Sz.none {fam : Int} {w : List Int} (h : Sz fam 3 w) : facesBy fam w = [] := by
  obtain ⟨h1, h2, h3⟩ := h
  unfold facesBy
  rcases Int.lt_trichotomy fam 0 with h | h | h
  · have := (h2 h).2.2.1 (by decide)
    rw [if_neg (by omega), if_pos (by omega)]
  · have := h1 h
    rw [if_pos h, if_pos (by omega)]
  · have := h3 h
    rw [if_neg (by omega), if_pos (by omega)]
def Closed (fam : Int) (ws : List (List Int)) : Prop := ∀ w ∈ ws, ∀ f ∈ facesBy fam w, f ∈ ws
def wordsWith (ws : List (List Int)) (word : List Int) (fam : Int) : List (List Int) :=
  let l1 := layerOf ws fam [word]
  let l2 := layerOf ws fam l1
  let l3 := layerOf ws fam l2
  (l3 ++ (l2 ++ (l1 ++ ([word] ++ [])))).foldl (newIn []) ws
theorem mem_wordsWith {ws : List (List Int)} {word : List Int} {fam : Int} {x : List Int} : x ∈ wordsWith ws word fam ↔ x ∈ ws ∨ x ∈ layerOf ws fam (layerOf ws fam (layerOf ws fam [word])) ∨ x ∈ layerOf ws fam (layerOf ws fam [word]) ∨ x ∈ layerOf ws fam [word] ∨ x = word := by
  unfold wordsWith
  rw [mem_newIn]
  simp
theorem wordsWith_closed {ws : List (List Int)} {word : List Int} {fam : Int} (hc : Closed fam ws) (hs : Sz fam 0 word) : Closed fam (wordsWith ws word fam) := by
  intro w hw f hf
  rw [mem_wordsWith] at hw ⊢
  by_cases hfw : f ∈ ws
  · exact .inl hfw
  refine .inr ?_
  rcases hw with hw | hw | hw | hw | hw
  · exact absurd (hc w hw f hf) hfw
  · exfalso
    obtain ⟨⟨a, ha, ha'⟩, _⟩ := mem_layerOf.mp hw
    obtain ⟨⟨b, hb, hb'⟩, _⟩ := mem_layerOf.mp ha
    obtain ⟨⟨c, hc1, hc'⟩, _⟩ := mem_layerOf.mp hb
    obtain rfl := List.mem_singleton.mp hc1
    have := (((hs.face hc').face hb').face ha').none
    rw [this] at hf; cases hf
  · exact .inl (mem_layerOf.mpr ⟨⟨w, hw, hf⟩, hfw⟩)
  · exact .inr (.inl (mem_layerOf.mpr ⟨⟨w, hw, hf⟩, hfw⟩))
  · subst hw
    exact .inr (.inr (.inl (mem_layerOf.mpr ⟨⟨w, List.mem_singleton.mpr rfl, hf⟩, hfw⟩)))
theorem layer_sz {ws : List (List Int)} {fam : Int} {layer : List (List Int)} {k : Nat} (h : ∀ w ∈ layer, Sz fam k w) : ∀ w ∈ layerOf ws fam layer, Sz fam (k + 1) w := by
  intro w hw
  obtain ⟨⟨a, ha, ha'⟩, _⟩ := mem_layerOf.mp hw
  exact (h a ha).face ha'
theorem wordsWith_sz {ws : List (List Int)} {word : List Int} {fam : Int} (h : ∀ w ∈ ws, w.length ≤ 4) (hs : Sz fam 0 word) : ∀ w ∈ wordsWith ws word fam, w.length ≤ 4 := by
  have z0 : ∀ w ∈ [word], Sz fam 0 w := fun w hw => by rw [List.mem_singleton.mp hw]; exact hs
  intro w hw
  rcases mem_wordsWith.mp hw with hw | hw | hw | hw | hw
  · exact h w hw
  · exact (layer_sz (layer_sz (layer_sz z0)) w hw).le
  · exact (layer_sz (layer_sz z0) w hw).le
  · exact (layer_sz z0 w hw).le
  · exact hw ▸ hs.le
theorem flat_len {fam : Int} : ∀ (layer : List (List Int)), (∀ w ∈ layer, w.length ≤ 4) → (layer.flatMap (facesBy fam)).length ≤ 5 * layer.length
  | [], _ => Nat.le_refl _
  | x :: xs, h => by
    have h1 := flat_len (fam := fam) xs fun w hw => h w (List.mem_cons_of_mem _ hw)
    have h2 := len_faces fam x
    have h3 := h x List.mem_cons_self
    rw [List.flatMap_cons, List.length_append, List.length_cons]; omega
theorem layer_len {ws : List (List Int)} {fam : Int} {layer : List (List Int)} (h : ∀ w ∈ layer, w.length ≤ 4) : (layerOf ws fam layer).length ≤ 5 * layer.length := by
  unfold layerOf
  rw [layer_flat]
  have h1 := len_newIn ws (layer.flatMap (facesBy fam)) []
  have h2 := flat_len (fam := fam) layer h
  simp at h1 h2; omega
/-! ### the builder's loops -/
theorem words_loop1 {fam : Int} {ws : List (List Int)} (one : List Int) (ho : one.length ≤ 4) (b : List (List Int)) (hb : b.length ≤ 1000) (v1 v3 v4 v5 v9 : Option D) :
    l__law_words_with_1.f [some (wordsE ws), v1, some (.int fam), v3, v4, v5, some (.lst (b.map wordE)), some (wordE one), none, v9] =
      some (.nx [some (wordsE ws), v1, some (.int fam), v3, v4, v5, some (.lst (((facesBy fam one).foldl (newIn ws) b).map wordE)), some (wordE one), none, v9]) := by
  have key := forD_foldI (α := List Int) (β := List (List Int)) (bind := (XG.n 8).f) (l := [8]) (body := b__law_words_with_1.f) (fun s => [some (wordsE ws), v1, some (.int fam), v3, v4, v5, some (.lst (s.map wordE)), some (wordE one), none, v9])
    wordE (newIn ws) (fun j s => s.length ≤ b.length + j) (facesBy fam one) 0 b (Nat.le_refl _) (by
      intro j s f hf _ hj hI
      have hfl := len_faces fam one
      have hsl : s.length < sizeLine := len_lt (by omega)
      constructor
      · refine ⟨_, rfl, [some (wordsE ws), v1, some (.int fam), v3, v4, v5, some (.lst ((newIn ws s f).map wordE)), some (wordE one), some (wordE f), v9], .inl ?_, rfl⟩
        unfold newIn
        by_cases h1 : f ∈ ws
        · simp [b__law_words_with_1, wordsE_in, wordsL_in, h1]
        · by_cases h2 : f ∈ s
          · simp [b__law_words_with_1, wordsE_in, wordsL_in, h1, h2]
          · simp [b__law_words_with_1, wordsE_in, wordsL_in, h1, h2, hsl]
      · unfold newIn
        split
        · omega
        · simp; omega)
  have hfb := F_faces_by fam one (by omega)
  have sq : seqF false (wordsE (facesBy fam one)) = some (.ok ((facesBy fam one).map wordE)) := by simp [seqF, wordsE]
  simp only [l__law_words_with_1]
  simp [hfb, sq]
  exact key.1
theorem words_loop2 {fam : Int} {ws : List (List Int)} (layer : List (List Int)) (ho : ∀ w ∈ layer, w.length ≤ 4) (hl : layer.length ≤ 150) (v1 v4 v5 v9 : Option D) :
    l__law_words_with_2.f [some (wordsE ws), v1, some (.int fam), some (.lst (layer.map wordE)), v4, v5, some (.lst []), none, none, v9] =
      some (.nx [some (wordsE ws), v1, some (.int fam), some (.lst (layer.map wordE)), v4, v5, some (.lst ((layerOf ws fam layer).map wordE)), none, none, v9]) := by
  have key := forD_foldI (α := List Int) (β := List (List Int)) (bind := (XG.n 7).f) (l := [7, 8]) (body := b__law_words_with_2.f) (fun s => [some (wordsE ws), v1, some (.int fam), some (.lst (layer.map wordE)), v4, v5, some (.lst (s.map wordE)), none, none, v9])
    wordE (fun b one => (facesBy fam one).foldl (newIn ws) b) (fun j s => s.length ≤ 5 * j) layer 0 [] (Nat.le_refl _) (by
      intro j s one hone _ hj hI
      constructor
      · refine ⟨_, rfl, [some (wordsE ws), v1, some (.int fam), some (.lst (layer.map wordE)), v4, v5, some (.lst (((facesBy fam one).foldl (newIn ws) s).map wordE)), some (wordE one), none, v9], .inl ?_, rfl⟩
        have := words_loop1 (ws := ws) (fam := fam) one (ho one hone) s (by omega) v1 (some (.lst (layer.map wordE))) v4 v5 v9
        simp [b__law_words_with_2, this]
      · have h1 := len_newIn ws (facesBy fam one) s
        have h2 := len_faces fam one
        have h3 := ho one hone
        show _ ≤ _
        omega)
  simp only [l__law_words_with_2]
  simp [seqF]
  exact key.1
theorem F_words_with {fam : Int} {ws : List (List Int)} (word : List Int) (hw : ws.length ≤ 200) (hs : Sz fam 0 word) :
    pf__law_words_with.F [wordsE ws, wordE word, .int fam] = some (.ok (wordsE (wordsWith ws word fam))) := by
  have z0 : ∀ w ∈ [word], Sz fam 0 w := fun w hw => by rw [List.mem_singleton.mp hw]; exact hs
  have z1 := layer_sz (ws := ws) z0
  have z2 := layer_sz (ws := ws) z1
  have z3 := layer_sz (ws := ws) z2
  have n1 := layer_len (ws := ws) (fam := fam) (layer := [word]) fun w hw => (z0 w hw).le
  have n2 := layer_len (ws := ws) (fam := fam) fun w hw => (z1 w hw).le
  have n3 := layer_len (ws := ws) (fam := fam) fun w hw => (z2 w hw).le
  generalize e1 : layerOf ws fam [word] = l1 at *
  generalize e2 : layerOf ws fam l1 = l2 at *
  generalize e3 : layerOf ws fam l2 = l3 at *
  simp only [List.length_singleton] at n1
  have body : ∀ (layer rows : List (List Int)) (k : Int), (∀ w ∈ layer, w.length ≤ 4) → layer.length ≤ 150 → rows.length ≤ 500 → b__law_words_with_3.f [some (wordsE ws), some (wordE word), some (.int fam), some (.lst (layer.map wordE)), some (.lst (rows.map wordE)), some (.int k), none, none, none, none] =
      some (.nx [some (wordsE ws), some (wordE word), some (.int fam), some (.lst ((layerOf ws fam layer).map wordE)), some (.lst ((layer ++ rows).map wordE)), some (.int k), some (.lst ((layerOf ws fam layer).map wordE)), none, none, none]) := by
    intro layer rows k h1 h2 h3
    have l2 := words_loop2 (ws := ws) (fam := fam) layer h1 h2 (some (wordE word)) (some (.lst ((layer ++ rows).map wordE))) (some (.int k)) none
    have a : layer.length + rows.length ≤ sizeLine := len_ok (by omega)
    have im : immL (layer.map wordE ++ rows.map wordE) = true := by rw [← List.map_append]; exact wordsE_imm _
    simp at l2
    simp [b__law_words_with_3, addF, a, im, l2]
  have b1 := body [word] [] 0 (fun w hw => (z0 w hw).le) (by simp) (by simp)
  have b2 := body l1 ([word] ++ []) 1 (fun w hw => (z1 w hw).le) (by omega) (by simp)
  have b3 := body l2 (l1 ++ ([word] ++ [])) 2 (fun w hw => (z2 w hw).le) (by omega) (by simp; omega)
  have b4 := body l3 (l2 ++ (l1 ++ ([word] ++ []))) 3 (fun w hw => (z3 w hw).le) (by omega) (by simp; omega)
  rw [e1] at b1
  rw [e2] at b2
  rw [e3] at b3
  generalize layerOf ws fam l3 = l4 at b4
  have rg : rg1F [.int 4] = some (.ok [.int 0, .int 1, .int 2, .int 3]) := by rfl
  have l3r : l__law_words_with_3.f [some (wordsE ws), some (wordE word), some (.int fam), some (.lst ([word].map wordE)), some (.lst (([] : List (List Int)).map wordE)), none, none, none, none, none] =
      some (.nx [some (wordsE ws), some (wordE word), some (.int fam), some (.lst (l4.map wordE)), some (.lst ((l3 ++ (l2 ++ (l1 ++ ([word] ++ [])))).map wordE)), none, none, none, none, none]) := by
    simp only [l__law_words_with_3]
    simp only [for_f, ir1_f, acons_f, anil_f, kI_f, bA_ok, bLI_ok, rg, bSI_ok, forD, gn_f, List.set, b1, loopK, killE, List.foldl, b2, b3, b4]
  have rows_len : (l3 ++ (l2 ++ (l1 ++ ([word] ++ [])))).length ≤ 300 := by simp; omega
  have key := forD_foldI (α := List Int) (β := List (List Int)) (bind := (XG.n 7).f) (l := [7]) (body := b__law_words_with_4.f) (fun s => [some (wordsE ws), some (wordE word), some (.int fam), some (.lst (l4.map wordE)), some (.lst ((l3 ++ (l2 ++ (l1 ++ ([word] ++ [])))).map wordE)), none, none, none, none, some (.lst (s.map wordE))])
    wordE (newIn []) (fun j s => s.length ≤ ws.length + j) (l3 ++ (l2 ++ (l1 ++ ([word] ++ [])))) 0 ws (Nat.le_refl _) (by
      intro j s f hf _ hj hI
      have hsl : s.length < sizeLine := len_lt (by omega)
      constructor
      · refine ⟨_, rfl, [some (wordsE ws), some (wordE word), some (.int fam), some (.lst (l4.map wordE)), some (.lst ((l3 ++ (l2 ++ (l1 ++ ([word] ++ [])))).map wordE)), none, none, some (wordE f), none, some (.lst ((newIn [] s f).map wordE))], .inl ?_, rfl⟩
        unfold newIn
        by_cases h2 : f ∈ s
        · simp [b__law_words_with_4, wordsL_in, h2]
        · simp [b__law_words_with_4, wordsL_in, h2, hsl]
      · unfold newIn
        split
        · omega
        · simp; omega)
  have lo : listOfF true [wordsE ws] = some (.ok (.lst (ws.map wordE))) := by simp [listOfF, wordsE, wordsE_imm]
  have s1 : 1 ≤ sizeLine := by decide
  have k2 := key.1
  unfold wordsWith
  simp only [e1, e2, e3]
  simp only [List.map_cons, List.map_nil] at l3r
  simp only [pf__law_words_with, runD_eq, B__law_words_with, l__law_words_with_4]
  simp [s1, l3r, lo, seqF]
  simp at k2
  rw [k2]
  simp [wordsE]
theorem F_word_by (cell fam : Int) (letters : Nat) (h1 : 1 ≤ letters) (h2 : letters ≤ 30) (hf : fam ≤ 30) :
    ∃ word : List Int, pf__law_word_by.F [.int cell, .int fam, .int (letters : Int)] = some (.ok (wordE word)) ∧ Sz fam 0 word := by
  have d4 : ∀ c : Int, IOp.fdv.g c 4 = some (.int (c / 4)) := fun c => fdv_g (cdiv_of 8 (by decide) (by decide))
  obtain ⟨size, hsz, es⟩ := small_fmod (cell.fmod 1000000) 4 (by decide)
  simp at es
  have loop : ∀ (n : Nat) (base c : Int) (v1 v2 : Option D), 1 ≤ base → base ≤ 30 → n ≤ 4 → ∃ (word : List Int) (c' : Int), word.length = n ∧
      l__law_word_by_1.f [some (.int c), v1, v2, some (.int (n : Int)), some (.int base), some (.tup []), none] = some (.nx [some (.int c'), v1, v2, some (.int (n : Int)), some (.int base), some (wordE word), none]) := by
    intro n base c v1 v2 hb hb' hn
    obtain ⟨s', k1, k2⟩ := forD_cnt (α := Nat) (β := Int × List Int) (bind := (XG.n 6).f) (l := [6]) (body := b__law_word_by_1.f) (fun s => [some (.int s.1), v1, v2, some (.int (n : Int)), some (.int base), some (wordE s.2), none])
      natE (fun j s => s.2.length = j) (List.range n) 0 (c, []) rfl (by
        intro j s x hx _ hj hI
        have d : IOp.fdv.g s.1 base = some (.int (s.1 / base)) := fdv_g (cdiv_of 8 (by omega) (by omega))
        have m : IOp.mod.g s.1 base = some (.int (s.1.fmod base)) := mod_g (by omega)
        have hj' : j < n := by simpa using hj
        have l : s.2.length + ([s.1.fmod base] : List Int).length ≤ sizeLine := len_ok (by simp; omega)
        refine ⟨_, rfl, (s.1 / base, s.2 ++ [s.1.fmod base]), [some (.int (s.1 / base)), v1, v2, some (.int (n : Int)), some (.int base), some (wordE (s.2 ++ [s.1.fmod base])), some (natE x)], .inl ?_, rfl, ?_⟩
        · have a := wordE_add true _ _ l
          have s1 : 1 ≤ sizeLine := by decide
          rw [← wordE_one] at a
          simp [b__law_word_by_1, d, m, s1, a]
        · simp [hI])
    refine ⟨s'.2, s'.1, by simpa using k2, ?_⟩
    simp only [l__law_word_by_1]
    simp [rg1F_of (j := (n : Int)) (inB_mk (by omega) (by omega)), rgD_nat]
    exact k1
  rcases Int.lt_trichotomy fam 0 with hn | hn | hn
  · by_cases e1 : size = 1
    · subst e1
      obtain ⟨word, c', hl, hw⟩ := loop 1 letters (cell.fmod 1000000 / 4) (some (.int fam)) (some (.int (letters : Int))) (by omega) (by omega) (by decide)
      refine ⟨word, ?_, fun z => by omega, fun _ => ⟨by omega, fun _ => by omega, fun z => by omega, by omega⟩, fun z => by omega⟩
      have h0 : ¬ fam = 0 := by omega
      have h0' : ¬ 0 < fam := by omega
      simp at hw es
      simp [pf__law_word_by, runD_eq, B__law_word_by, mod_g, es, h0, hn, h0', d4, hw]
    · obtain ⟨word, c', hl, hw⟩ := loop 3 letters (cell.fmod 1000000 / 4) (some (.int fam)) (some (.int (letters : Int))) (by omega) (by omega) (by decide)
      refine ⟨word, ?_, fun z => by omega, fun _ => ⟨by omega, fun z => by omega, fun z => by omega, by omega⟩, fun z => by omega⟩
      have h0 : ¬ fam = 0 := by omega
      have h0' : ¬ 0 < fam := by omega
      have e1' : ¬ (size : Int) = 1 := by omega
      simp at hw
      simp [pf__law_word_by, runD_eq, B__law_word_by, mod_g, es, h0, hn, h0', e1', d4, hw]
  · subst hn
    obtain ⟨word, c', hl, hw⟩ := loop (size + 1) letters (cell.fmod 1000000 / 4) (some (.int 0)) (some (.int (letters : Int))) (by omega) (by omega) (by omega)
    refine ⟨word, ?_, fun z => by omega, fun z => by omega, fun z => by omega⟩
    simp at hw
    simp [pf__law_word_by, runD_eq, B__law_word_by, mod_g, es, d4, hw]
  · obtain ⟨word, c', hl, hw⟩ := loop size fam (cell.fmod 1000000 / 4) (some (.int fam)) (some (.int (letters : Int))) (by omega) (by omega) (by omega)
    refine ⟨word, ?_, fun z => by omega, fun z => by omega, fun z => by omega⟩
    have h0 : ¬ fam = 0 := by omega
    have h0' : ¬ fam < 0 := by omega
    simp [pf__law_word_by, runD_eq, B__law_word_by, mod_g, es, h0, hn, h0', d4, hw]
def famOf (kind : Int) : Int := if kind.fmod 3 = 1 then -1 else if kind.fmod 3 = 2 then 1 + (kind / 18).fmod 19 else 0
theorem famOf_le (kind : Int) : famOf kind ≤ 30 := by
  unfold famOf
  split
  · decide
  split
  · rw [fmod_pos (by decide)]; omega
  · decide
/-- pieces whose faces are places -/
def Placed (ps : List (List Nat)) : Prop := ∀ p ∈ ps, (p.length = 0 ∨ (2 ≤ p.length ∧ p.length ≤ 4)) ∧ ∀ f ∈ p, f < ps.length
def idxOf (ws : List (List Int)) (w : List Int) : Nat := (ws.findIdx? fun z => decide (z = w)).getD 0
theorem idx_in {ws : List (List Int)} {w : List Int} (h : w ∈ ws) : (ws.findIdx? fun z => decide (z = w)) = some (idxOf ws w) ∧ idxOf ws w < ws.length := by
  have : (ws.findIdx? fun z => decide (z = w)).isSome = true := by
    rw [List.findIdx?_isSome, List.any_eq_true]
    exact ⟨w, h, by simp⟩
  obtain ⟨j, hj⟩ := Option.isSome_iff_exists.mp this
  have h2 := List.findIdx?_eq_some_iff_getElem.mp hj
  unfold idxOf
  rw [hj]
  exact ⟨rfl, h2.1⟩
def piecesOf (fam : Int) (ws : List (List Int)) : List (List Nat) := ws.map fun w => (facesBy fam w).map (idxOf ws)
theorem count_faces {fam : Int} {w : List Int} (h : Sz fam 0 w ∨ w.length ≤ 4) (h' : 0 < fam → w.length ≤ 3) : (facesBy fam w).length = 0 ∨ (2 ≤ (facesBy fam w).length ∧ (facesBy fam w).length ≤ 4) := by
  have hl : w.length ≤ 4 := h.elim Sz.le id
  unfold facesBy
  split
  · split
    · exact .inl rfl
    · refine .inr ?_
      rw [List.length_map, List.length_range]; omega
  split
  · exact .inl rfl
  split
  · split
    · exact .inr ⟨by simp, by simp⟩
    · refine .inr ?_
      rw [List.length_map]; omega
  · refine .inr ?_
    have := h' (by omega)
    simp; omega
def Wz (fam : Int) (w : List Int) : Prop := w.length ≤ 4 ∧ (0 < fam → w.length ≤ 3) ∧ (fam < 0 → w.length ≠ 2 ∧ w.length ≤ 3)
theorem Sz.wz {fam : Int} {k : Nat} {w : List Int} (h : Sz fam k w) : Wz fam w := ⟨h.le, fun z => by have := h.2.2 z; omega, fun z => ⟨(h.2.1 z).2.2.2, (h.2.1 z).1⟩⟩
theorem wordsWith_wz {ws : List (List Int)} {word : List Int} {fam : Int} (h : ∀ w ∈ ws, Wz fam w) (hs : Sz fam 0 word) : ∀ w ∈ wordsWith ws word fam, Wz fam w := by
  have z0 : ∀ w ∈ [word], Sz fam 0 w := fun w hw => by rw [List.mem_singleton.mp hw]; exact hs
  intro w hw
  rcases mem_wordsWith.mp hw with hw | hw | hw | hw | hw
  · exact h w hw
  · exact (layer_sz (layer_sz (layer_sz z0)) w hw).wz
  · exact (layer_sz (layer_sz z0) w hw).wz
  · exact (layer_sz z0 w hw).wz
  · exact hw ▸ hs.wz
structure Words (fam : Int) (most : Nat) (ws : List (List Int)) : Prop where
  le : ws.length ≤ most
  wz : ∀ w ∈ ws, Wz fam w
  closed : Closed fam ws
theorem pieces_placed {fam : Int} {most : Nat} {ws : List (List Int)} (h : Words fam most ws) : Placed (piecesOf fam ws) := by
  intro p hp
  obtain ⟨w, hw, rfl⟩ := List.mem_map.mp hp
  obtain ⟨a, b, _⟩ := h.wz w hw
  refine ⟨?_, ?_⟩
  · rw [List.length_map]; exact count_faces (.inr a) b
  · intro f hf
    obtain ⟨x, hx, rfl⟩ := List.mem_map.mp hf
    unfold piecesOf
    rw [List.length_map]
    exact (idx_in (h.closed w hw x hx)).2
theorem tup_pieces {fam : Int} {most : Nat} (hm : most ≤ 200) {ws : List (List Int)} (h : Words fam most ws) (v0 v1 v2 v5 v6 : Option D) :
    c__law_shape_by_2.f [v0, v1, v2, some (.int fam), some (wordsE ws), v5, v6, none, none] = some (.ok (shapeE (piecesOf fam ws))) := by
  have hle := h.le
  have inner : ∀ w ∈ ws, c__law_shape_by_1.f [v0, v1, v2, some (.int fam), some (wordsE ws), v5, v6, some (wordE w), none] = some (.ok (.lst (((facesBy fam w).map (idxOf ws)).map natE))) := by
    intro w hw
    obtain ⟨a, b, _⟩ := h.wz w hw
    have hfb := F_faces_by fam w (by omega)
    have sq : seqF false (wordsE (facesBy fam w)) = some (.ok ((facesBy fam w).map wordE)) := by simp [seqF, wordsE]
    have hfl := len_faces fam w
    have key := compD_all (α := List Int) (β := Nat) (bind := (XG.n 8).f) (e := (XE.index (.var 4) (.var 8)).f) (env := [v0, v1, v2, some (.int fam), some (wordsE ws), v5, v6, some (wordE w), none])
      wordE (idxOf ws) natE (facesBy fam w) (len_ok (by omega)) (by
        intro f hf
        refine ⟨_, rfl, ?_⟩
        have := (idx_in (h.closed w hw f hf)).1
        have il : isLst1 (wordsE ws) = true := rfl
        simp [il, wordsE_idx, this])
    simp only [c__law_shape_by_1]
    simp [hfb, sq, wipeE]
    simp at key
    rw [key]
  have key := compD_all (α := List Int) (β := List Nat) (bind := (XG.n 7).f) (e := (XE.tupOf (.cons c__law_shape_by_1 .nil)).f) (env := [v0, v1, v2, some (.int fam), some (wordsE ws), v5, v6, none, none])
    wordE (fun w => (facesBy fam w).map (idxOf ws)) pieceE ws (len_ok (by omega)) (by
      intro w hw
      refine ⟨_, rfl, ?_⟩
      have := inner w hw
      simp at this
      simp [this, pieceE])
  have sq : seqF false (wordsE ws) = some (.ok (ws.map wordE)) := by simp [seqF, wordsE]
  simp only [c__law_shape_by_2]
  simp [sq, wipeE]
  simp at key
  rw [key]
  simp [shapeE, piecesOf, Function.comp_def]
theorem F_shape_by (kind : Int) (cells : List Int) (most : Nat) (hm : most ≤ 100) :
    ∃ ws : List (List Int), Words (famOf kind) most ws ∧ pf__law_shape_by.F [.int kind, .lst (cells.map .int), .int (most : Int)] = some (.ok (shapeE (piecesOf (famOf kind) ws))) := by
  have d3 : IOp.fdv.g kind 3 = some (.int (kind / 3)) := fdv_g (cdiv_of 8 (by decide) (by decide))
  have d18 : IOp.fdv.g kind 18 = some (.int (kind / 18)) := fdv_g (cdiv_of 8 (by decide) (by decide))
  obtain ⟨lt, hlt, elt⟩ := small_fmod (kind / 3) 6 (by decide)
  simp at elt
  generalize hfam : famOf kind = fam
  have hf30 : fam ≤ 30 := hfam ▸ famOf_le kind
  obtain ⟨ws, k1, k2⟩ := forD_rel (α := Int) (β := List (List Int)) (bind := (XG.n 5).f) (l := [5, 6]) (body := b__law_shape_by_1.f) (fun ws => [some (.int kind), some (.lst (cells.map .int)), some (.int (most : Int)), some (.int fam), some (wordsE ws), none, none, none, none])
    D.int (Words fam most) cells [] ⟨by simp, by simp, fun w hw => by cases hw⟩ (by
      intro ws cell _ hW
      have hle := hW.le
      obtain ⟨word, w1, w2⟩ := F_word_by cell fam (1 + lt) (by omega) (by omega) hf30
      have w3 := F_words_with (ws := ws) word (by omega) w2
      have lm : ((1 + lt : Nat) : Int) = 1 + (lt : Int) := by push_cast; rfl
      rw [lm] at w1
      by_cases c : (wordsWith ws word fam).length ≤ most
      · have c' : ((wordsWith ws word fam).length : Int) ≤ most := by omega
        refine ⟨_, rfl, wordsWith ws word fam, [some (.int kind), some (.lst (cells.map .int)), some (.int (most : Int)), some (.int fam), some (wordsE (wordsWith ws word fam)), some (.int cell), some (wordsE (wordsWith ws word fam)), none, none], .inl ?_, rfl, ⟨c, wordsWith_wz hW.wz w2, wordsWith_closed hW.closed w2⟩⟩
        simp [b__law_shape_by_1, d3, mod_g, elt, w1, w3, wordsE_len, c]
      · have c' : ¬ ((wordsWith ws word fam).length : Int) ≤ most := by omega
        refine ⟨_, rfl, ws, [some (.int kind), some (.lst (cells.map .int)), some (.int (most : Int)), some (.int fam), some (wordsE ws), some (.int cell), some (wordsE (wordsWith ws word fam)), none, none], .inl ?_, rfl, hW⟩
        simp [b__law_shape_by_1, d3, mod_g, elt, w1, w3, wordsE_len, c])
  refine ⟨ws, k2, ?_⟩
  have t2 := tup_pieces (by omega) k2 (some (.int kind)) (some (.lst (cells.map .int))) (some (.int (most : Int))) none none
  have k1' : l__law_shape_by_1.f [some (.int kind), some (.lst (cells.map .int)), some (.int (most : Int)), some (.int fam), some (.lst []), none, none, none, none] = some (.nx [some (.int kind), some (.lst (cells.map .int)), some (.int (most : Int)), some (.int fam), some (wordsE ws), none, none, none, none]) := by
    simp only [l__law_shape_by_1]
    simp [seqF]
    exact k1
  unfold famOf at hfam
  by_cases e1 : kind.fmod 3 = 1
  · rw [if_pos e1] at hfam
    subst hfam
    simp [pf__law_shape_by, runD_eq, B__law_shape_by, mod_g, e1, k1', t2]
  · rw [if_neg e1] at hfam
    by_cases e2 : kind.fmod 3 = 2
    · rw [if_pos e2] at hfam
      subst hfam
      simp [pf__law_shape_by, runD_eq, B__law_shape_by, mod_g, e1, e2, d18, k1', t2]
    · rw [if_neg e2] at hfam
      subst hfam
      simp [pf__law_shape_by, runD_eq, B__law_shape_by, mod_g, e1, e2, k1', t2]
theorem F_whole (k : Int) : pf__law_whole.F [.int k] = some (.ok (.bl true)) := by
  simp [pf__law_whole, runD_eq, B__law_whole]
theorem F_is_whole (k : Int) : pf_is_whole.F [.int k] = some (.ok (.bl true)) := by
  simp [pf_is_whole, runD_eq, B_is_whole]
def lev (p : List Nat) : Nat := p.length - 1
def pAt (ps : List (List Nat)) (f : Nat) : List Nat := ps.getD f []
theorem ix_pAt {ps : List (List Nat)} {f : Nat} (h : f < ps.length) : ixF (shapeE ps) (.int (f : Int)) = some (.ok (pieceE (pAt ps f))) := by
  rw [shapeE_ix ps f h]; simp [pAt, h]
theorem ix_piece {p : List Nat} {f : Nat} (h : f < p.length) : ixF (pieceE p) (.int (f : Int)) = some (.ok (.int (p.getD f 0 : Nat))) := by
  rw [pieceE_ix p f h]; simp [natE, h]
theorem F_level_of (p : List Nat) : pf_level_of.F [pieceE p] = some (.ok (.int (lev p : Int))) := by
  unfold lev
  by_cases h : p.length = 0
  · simp [pf_level_of, runD_eq, B_level_of, pieceE_len, h]
  · have e : (p.length : Int) - 1 = ((p.length - 1 : Nat) : Int) := by omega
    have h' : ¬ p = [] := fun z => h (by rw [z]; rfl)
    simp [pf_level_of, runD_eq, B_level_of, pieceE_len, h', e]
theorem nats_ix' (l : List Nat) (n : Nat) (h : n < l.length) : ixF (.lst (l.map natE)) (.int (n : Int)) = some (.ok (natE (l.getD n 0))) := by
  rw [ix_map natE l n h]; simp [h]
/-- a for that looks at each item, with one answer where an item fails -/
theorem forD_check {α : Type} {bind : D → EnvD → Option EnvD} {body : EnvD → Option Out} {l : List Nat} {env : EnvD} (ψ : α → D) (q : α → Bool) :
    ∀ xs : List α, (∀ x ∈ xs, ∃ e1, bind (ψ x) env = some e1 ∧ ∃ e2, killE l e2 = env ∧ body e1 = if q x = true then some (.nx e2) else some (.rt (.bl false))) →
      forD bind body l (xs.map ψ) env = if xs.all q = true then some (.nx env) else some (.rt (.bl false))
  | [], _ => rfl
  | x :: xs, h => by
    obtain ⟨e1, h1, e2, h2, h3⟩ := h x List.mem_cons_self
    rw [List.map_cons, forD, h1, List.all_cons]
    cases hq : q x with
    | true =>
      rw [hq] at h3
      simp only [h3, if_true, loopK, h2, Bool.true_and]
      exact forD_check ψ q xs fun y hy => h y (List.mem_cons_of_mem _ hy)
    | false =>
      rw [hq] at h3
      simp only [h3, Bool.false_eq_true, if_false, loopK, Bool.false_and]
/-- what may stand in a thing -/
inductive Odd : D → Prop
  | int (z : Int) : Odd (.int z)
  | bl (b : Bool) : Odd (.bl b)
  | non : Odd .non
  | str (s : Str) : Odd (.str s)
  | tup (xs : List D) : Odd (.tup xs)
  | lst (xs : List D) : Odd (.lst xs)
def okF (ps : List (List Nat)) (k : Nat) (d : D) : Bool := match d with
  | .int z => decide (0 ≤ z) && (decide (z < ps.length) && decide (lev (pAt ps z.toNat) + 1 = k))
  | _ => false
theorem tup_len (ds : List D) : lenF [.tup ds] = some (.int (ds.length : Int)) := rfl
theorem F_level_tup (ds : List D) (h : ds.length ≠ 0) : pf_level_of.F [.tup ds] = some (.ok (.int ((ds.length : Int) - 1))) := by
  have h' : ¬ ds = [] := fun z => h (by rw [z]; rfl)
  simp [pf_level_of, runD_eq, B_level_of, h']
theorem there_body (ps : List (List Nat)) (ds : List D) (h : 2 ≤ ds.length) (d : D) (hd : Odd d) :
    b_faces_there_1.f [some (shapeE ps), some (.tup ds), some d] = if okF ps (ds.length - 1) d = true then some (.nx [some (shapeE ps), some (.tup ds), some d]) else some (.rt (.bl false)) := by
  cases hd with
  | int z =>
    unfold okF
    by_cases h0 : z < 0
    · have h0' : ¬ 0 ≤ z := by omega
      simp [b_faces_there_1, F_is_whole, h0, h0']
    · have h0' : 0 ≤ z := by omega
      by_cases h1 : z < ps.length
      · have h1' : ¬ (ps.length : Int) ≤ z := by omega
        have i1 := ix_pAt (ps := ps) (f := z.toNat) (by omega)
        rw [Int.toNat_of_nonneg h0'] at i1
        have l1 := F_level_of (pAt ps z.toNat)
        have l2 := F_level_tup ds (by omega)
        by_cases h2 : lev (pAt ps z.toNat) + 1 = ds.length - 1
        · have h2' : (lev (pAt ps z.toNat) : Int) + 1 = (ds.length : Int) - 1 := by omega
          simp [b_faces_there_1, F_is_whole, h0, h0', h1, h1', shapeE_len, i1, l1, l2, h2, h2']
        · have h2' : ¬ (lev (pAt ps z.toNat) : Int) + 1 = (ds.length : Int) - 1 := by omega
          simp [b_faces_there_1, F_is_whole, h0, h0', h1, h1', shapeE_len, i1, l1, l2, h2, h2']
      · have h1' : (ps.length : Int) ≤ z := by omega
        simp [b_faces_there_1, F_is_whole, h0, h0', h1, h1', shapeE_len]
  | _ => simp [b_faces_there_1, pf_is_whole, runD_eq, B_is_whole, okF]
theorem by_body (ps : List (List Nat)) (ds : List D) (h : 2 ≤ ds.length) (d : D) (hd : Odd d) (hz : ∀ i, (pAt ps i).length ≠ 1) :
    b__law_fits_by_1.f [some (shapeE ps), some (.tup ds), some d, none, none] = if okF ps (ds.length - 1) d = true then some (.nx [some (shapeE ps), some (.tup ds), some d, none, none]) else some (.rt (.bl false)) := by
  cases hd with
  | int z =>
    unfold okF
    by_cases h0 : z < 0
    · have h0' : ¬ 0 ≤ z := by omega
      simp [b__law_fits_by_1, F_whole, h0, h0']
    · have h0' : 0 ≤ z := by omega
      by_cases h1 : z < ps.length
      · have h1' : ¬ (ps.length : Int) ≤ z := by omega
        have i1 := ix_pAt (ps := ps) (f := z.toNat) (by omega)
        rw [Int.toNat_of_nonneg h0'] at i1
        have mx : BI.max2.g [.int 1, .int ((pAt ps z.toNat).length : Int)] = some (.int ((lev (pAt ps z.toNat) : Int) + 1)) := by
          unfold lev
          by_cases hc : ((pAt ps z.toNat).length : Int) > 1
          · have e : ((pAt ps z.toNat).length : Int) = (((pAt ps z.toNat).length - 1 : Nat) : Int) + 1 := by omega
            show some (D.int (if ((pAt ps z.toNat).length : Int) > 1 then ((pAt ps z.toNat).length : Int) else 1)) = _
            rw [if_pos hc, ← e]
          · have e : (1 : Int) = (((pAt ps z.toNat).length - 1 : Nat) : Int) + 1 := by omega
            show some (D.int (if ((pAt ps z.toNat).length : Int) > 1 then ((pAt ps z.toNat).length : Int) else 1)) = _
            rw [if_neg hc, ← e]
        by_cases h2 : lev (pAt ps z.toNat) + 1 = ds.length - 1
        · have h2' : (lev (pAt ps z.toNat) : Int) + 1 = (ds.length : Int) - 1 := by omega
          simp [b__law_fits_by_1, F_whole, h0, h0', h1, h1', shapeE_len, i1, pieceE_len, mx, h2, h2']
        · have h2' : ¬ (lev (pAt ps z.toNat) : Int) + 1 = (ds.length : Int) - 1 := by omega
          simp [b__law_fits_by_1, F_whole, h0, h0', h1, h1', shapeE_len, i1, pieceE_len, mx, h2, h2']
      · have h1' : (ps.length : Int) ≤ z := by omega
        simp [b__law_fits_by_1, F_whole, h0, h0', h1, h1', shapeE_len]
  | _ => simp [b__law_fits_by_1, pf__law_whole, runD_eq, B__law_whole, okF]
/-- the faces of a thing that has none but places -/
def toN : D → Nat
  | .int z => z.toNat
  | _ => 0
theorem ok_nats {ps : List (List Nat)} {k : Nat} {ds : List D} (h : ds.all (okF ps k) = true) : ds = (ds.map toN).map natE ∧ ∀ f ∈ ds.map toN, f < ps.length ∧ lev (pAt ps f) + 1 = k := by
  have one : ∀ d ∈ ds, d = natE (toN d) ∧ toN d < ps.length ∧ lev (pAt ps (toN d)) + 1 = k := by
    intro d hd
    have := List.all_eq_true.mp h d hd
    unfold okF at this
    split at this
    · next z =>
      simp at this
      refine ⟨?_, ?_, this.2.2⟩
      · show D.int z = D.int ((z.toNat : Nat) : Int)
        rw [Int.toNat_of_nonneg this.1]
      · show z.toNat < _
        omega
    · cases this
  refine ⟨?_, fun f hf => ?_⟩
  · rw [List.map_map]
    conv => lhs; rw [← List.map_id ds]
    exact List.map_congr_left fun d hd => (one d hd).1
  · obtain ⟨d, hd, rfl⟩ := List.mem_map.mp hf
    exact (one d hd).2
def at2 (ps : List (List Nat)) (f i : Nat) : Nat := (pAt ps f).getD i 0
def pairOk (ps : List (List Nat)) (fs : List Nat) (j i : Nat) : Bool := decide (at2 ps (fs.getD j 0) i = at2 ps (fs.getD i 0) (j - 1))
def meetAll (ps : List (List Nat)) (fs : List Nat) : Bool := (List.range fs.length).all fun j => (List.range j).all fun i => pairOk ps fs j i
theorem mem_getD {fs : List Nat} {j : Nat} (h : j < fs.length) : fs.getD j 0 ∈ fs := by
  rw [List.getD_eq_getElem?_getD, List.getElem?_eq_getElem h]; exact List.getElem_mem h
theorem pair_facts {ps : List (List Nat)} {fs : List Nat} (h3 : 3 ≤ fs.length) (h4 : fs.length ≤ 10) (hz : ∀ i, (pAt ps i).length ≠ 1) (hf : ∀ f ∈ fs, f < ps.length ∧ lev (pAt ps f) + 1 = fs.length - 1) {j i : Nat} (hj : j < fs.length) (hi : i < j) :
    ixF (pieceE fs) (.int (j : Int)) = some (.ok (.int (fs.getD j 0 : Nat))) ∧ ixF (pieceE fs) (.int (i : Int)) = some (.ok (.int (fs.getD i 0 : Nat))) ∧ ixF (shapeE ps) (.int (fs.getD j 0 : Nat)) = some (.ok (pieceE (pAt ps (fs.getD j 0)))) ∧ ixF (shapeE ps) (.int (fs.getD i 0 : Nat)) = some (.ok (pieceE (pAt ps (fs.getD i 0)))) ∧
    ixF (pieceE (pAt ps (fs.getD j 0))) (.int (i : Int)) = some (.ok (.int (at2 ps (fs.getD j 0) i : Nat))) ∧ ixF (pieceE (pAt ps (fs.getD i 0))) (.int ((j : Int) - 1)) = some (.ok (.int (at2 ps (fs.getD i 0) (j - 1) : Nat))) := by
  have hlen : ∀ f ∈ fs, (pAt ps f).length = fs.length - 1 := by
    intro f hfm
    have h1 := (hf f hfm).2
    have h2 := hz f
    unfold lev at h1
    omega
  have m1 := mem_getD hj
  have m2 := mem_getD (fs := fs) (j := i) (by omega)
  have l1 := hlen _ m1
  have l2 := hlen _ m2
  have e : (j : Int) - 1 = ((j - 1 : Nat) : Int) := by omega
  refine ⟨ix_piece hj, ix_piece (by omega), ix_pAt (hf _ m1).1, ix_pAt (hf _ m2).1, ix_piece (by omega), ?_⟩
  rw [e]
  exact ix_piece (by omega)
theorem rgn (n : Nat) (h : n ≤ 2000) : rg1F [.int (n : Int)] = some (.ok ((List.range n).map natE)) := by
  rw [rg1F_of (j := (n : Int)) (inB_mk (by omega) (by omega)), ← rgD_nat]; rfl
theorem F_meet {ps : List (List Nat)} {fs : List Nat} (h4 : fs.length ≤ 10) (hz : ∀ i, (pAt ps i).length ≠ 1) (hf : ∀ f ∈ fs, f < ps.length ∧ lev (pAt ps f) + 1 = fs.length - 1) :
    pf_faces_meet.F [shapeE ps, pieceE fs] = some (.ok (.bl (decide (fs.length < 3) || meetAll ps fs))) := by
  by_cases h3 : fs.length < 3
  · have h3' : (fs.length : Int) < 3 := by omega
    simp [pf_faces_meet, runD_eq, B_faces_meet, pieceE_len, h3, h3']
  · have h3' : ¬ (fs.length : Int) < 3 := by omega
    have inner : ∀ j, j < fs.length → l_faces_meet_1.f [some (shapeE ps), some (pieceE fs), some (natE j), none] = if (List.range j).all (fun i => pairOk ps fs j i) = true then some (.nx [some (shapeE ps), some (pieceE fs), some (natE j), none]) else some (.rt (.bl false)) := by
      intro j hj
      have key := forD_check (bind := (XG.n 3).f) (l := [3]) (body := b_faces_meet_1.f) (env := [some (shapeE ps), some (pieceE fs), some (natE j), none]) natE (fun i => pairOk ps fs j i) (List.range j) (by
        intro i hi
        obtain ⟨a, b, c, d, e, f⟩ := pair_facts (by omega) h4 hz hf hj (List.mem_range.mp hi)
        refine ⟨_, rfl, [some (shapeE ps), some (pieceE fs), some (natE j), some (natE i)], rfl, ?_⟩
        unfold pairOk
        generalize fs.getD j 0 = g1 at *
        generalize fs.getD i 0 = g2 at *
        generalize at2 ps g1 i = x at *
        generalize at2 ps g2 (j - 1) = y at *
        by_cases c0 : x = y
        · simp [b_faces_meet_1, natE_def, a, b, c, d, e, f, c0]
        · have c0' : ¬ (x : Int) = y := by omega
          simp [b_faces_meet_1, natE_def, a, b, c, d, e, f, c0, c0'])
      simp only [l_faces_meet_1, for_f, ir1_f, acons_f, anil_f, var_f, eget_succ, eget_zero, bA_ok, bLI_ok, natE_def, rgn j (by omega), bSI_ok]
      exact key
    have key := forD_check (bind := (XG.n 2).f) (l := [2, 3]) (body := b_faces_meet_2.f) (env := [some (shapeE ps), some (pieceE fs), none, none]) natE (fun j => (List.range j).all fun i => pairOk ps fs j i) (List.range fs.length) (by
      intro j hj
      exact ⟨_, rfl, _, rfl, inner j (List.mem_range.mp hj)⟩)
    have lp : l_faces_meet_2.f [some (shapeE ps), some (pieceE fs), none, none] = if meetAll ps fs = true then some (.nx [some (shapeE ps), some (pieceE fs), none, none]) else some (.rt (.bl false)) := by
      simp only [l_faces_meet_2, for_f, ir1_f, acons_f, anil_f, bi_f, len_g, var_f, eget_succ, eget_zero, bA_ok, bL_ok, pieceE_len, Option.map_some, bLI_ok, rgn fs.length (by omega), bSI_ok]
      exact key
    rw [decide_eq_false h3, Bool.false_or]
    cases hm : meetAll ps fs <;> rw [hm] at lp <;> simp [pf_faces_meet, runD_eq, B_faces_meet, pieceE_len, h3', h3, lp]
theorem by_meet {ps : List (List Nat)} {fs : List Nat} (h4 : fs.length ≤ 10) (hz : ∀ i, (pAt ps i).length ≠ 1) (hf : ∀ f ∈ fs, f < ps.length ∧ lev (pAt ps f) + 1 = fs.length - 1) :
    l__law_fits_by_3.f [some (shapeE ps), some (pieceE fs), none, none, none] = if (decide (fs.length < 3) || meetAll ps fs) = true then some (.nx [some (shapeE ps), some (pieceE fs), none, none, none]) else some (.rt (.bl false)) := by
  have inner : ∀ j, j < fs.length → l__law_fits_by_2.f [some (shapeE ps), some (pieceE fs), none, some (natE j), none] = if (List.range j).all (fun i => decide (fs.length < 3) || pairOk ps fs j i) = true then some (.nx [some (shapeE ps), some (pieceE fs), none, some (natE j), none]) else some (.rt (.bl false)) := by
    intro j hj
    have key := forD_check (bind := (XG.n 4).f) (l := [4]) (body := b__law_fits_by_2.f) (env := [some (shapeE ps), some (pieceE fs), none, some (natE j), none]) natE (fun i => decide (fs.length < 3) || pairOk ps fs j i) (List.range j) (by
      intro i hi
      refine ⟨_, rfl, [some (shapeE ps), some (pieceE fs), none, some (natE j), some (natE i)], rfl, ?_⟩
      by_cases h3 : fs.length < 3
      · have h3' : ¬ (2 : Int) < fs.length := by omega
        have h3n : ¬ 2 < fs.length := by omega
        simp [b__law_fits_by_2, natE_def, pieceE_len, h3, h3', h3n]
      · have h3' : (2 : Int) < fs.length := by omega
        have h3n : 2 < fs.length := by omega
        obtain ⟨a, b, c, d, e, f⟩ := pair_facts (by omega) h4 hz hf hj (List.mem_range.mp hi)
        unfold pairOk
        generalize fs.getD j 0 = g1 at *
        generalize fs.getD i 0 = g2 at *
        generalize at2 ps g1 i = x at *
        generalize at2 ps g2 (j - 1) = y at *
        by_cases c0 : x = y
        · simp [b__law_fits_by_2, natE_def, pieceE_len, h3, h3', h3n, a, b, c, d, e, f, c0]
        · have c0' : ¬ (x : Int) = y := by omega
          simp [b__law_fits_by_2, natE_def, pieceE_len, h3, h3', h3n, a, b, c, d, e, f, c0, c0'])
    simp only [l__law_fits_by_2, for_f, ir1_f, acons_f, anil_f, var_f, eget_succ, eget_zero, bA_ok, bLI_ok, natE_def, rgn j (by omega), bSI_ok]
    exact key
  have key := forD_check (bind := (XG.n 3).f) (l := [3, 4]) (body := b__law_fits_by_3.f) (env := [some (shapeE ps), some (pieceE fs), none, none, none]) natE (fun j => (List.range j).all fun i => decide (fs.length < 3) || pairOk ps fs j i) (List.range fs.length) (by
    intro j hj
    exact ⟨_, rfl, _, rfl, inner j (List.mem_range.mp hj)⟩)
  have e : ((List.range fs.length).all fun j => (List.range j).all fun i => decide (fs.length < 3) || pairOk ps fs j i) = (decide (fs.length < 3) || meetAll ps fs) := by
    unfold meetAll
    by_cases h3 : fs.length < 3
    · rw [decide_eq_true h3, Bool.true_or, List.all_eq_true]
      intro j _
      rw [List.all_eq_true]
      intro i _
      rfl
    · simp only [decide_eq_false h3, Bool.false_or]
  rw [e] at key
  simp only [l__law_fits_by_3, for_f, ir1_f, acons_f, anil_f, bi_f, len_g, var_f, eget_succ, eget_zero, bA_ok, bL_ok, pieceE_len, Option.map_some, bLI_ok, rgn fs.length (by omega), bSI_ok]
  exact key
def szOk (n : Nat) : Bool := decide (n = 0 ∨ n = 2 ∨ n = 3 ∨ n = 4)
def vv (ps : List (List Nat)) (ds : List D) : Bool := szOk ds.length && (ds.all (okF ps (ds.length - 1)) && (decide (ds.length < 3) || meetAll ps (ds.map toN)))
theorem sz_in (n : Nat) : inAF true (.int (n : Int)) (.tup [.int 0, .int 2, .int 3, .int 4]) = some (.ok (.bl (!szOk n))) := by
  have := inAF_intsT true (n : Int) [0, 2, 3, 4]
  simp only [List.map_cons, List.map_nil] at this
  have e : decide ((n : Int) ∈ ([0, 2, 3, 4] : List Int)) = szOk n := by
    unfold szOk
    apply decide_eq_decide.mpr
    simp only [List.mem_cons, List.not_mem_nil, or_false]
    omega
  rw [this, e]; rfl
theorem F_both {ps : List (List Nat)} (hz : ∀ i, (pAt ps i).length ≠ 1) (ds : List D) (hd : ∀ d ∈ ds, Odd d) :
    pf_fits.F [shapeE ps, .tup ds] = some (.ok (.bl (vv ps ds))) ∧ pf__law_fits_by.F [shapeE ps, .tup ds] = some (.ok (.bl (vv ps ds))) := by
  have s4 : 4 ≤ sizeLine := by decide
  have sz := sz_in ds.length
  unfold vv
  by_cases h : szOk ds.length = true
  · rw [h] at sz ⊢
    by_cases h0 : ds.length = 0
    · have e : ds = [] := List.length_eq_zero_iff.mp h0
      subst e
      simp at sz
      have fm := F_meet (ps := ps) (fs := []) (by simp) hz (fun f hf => by cases hf)
      have bm := by_meet (ps := ps) (fs := []) (by simp) hz (fun f hf => by cases hf)
      simp [pieceE] at fm bm
      constructor
      · simp [pf_fits, runD_eq, B_fits, s4, sz, pf_faces_there, B_faces_there, l_faces_there_1, seqF, forD, fm]
      · simp [pf__law_fits_by, runD_eq, B__law_fits_by, s4, sz, l__law_fits_by_1, seqF, forD, bm]
    · have h2 : 2 ≤ ds.length ∧ ds.length ≤ 4 := by
        unfold szOk at h
        have h := of_decide_eq_true h
        omega
      have k1 := forD_check (bind := (XG.n 2).f) (l := [2]) (body := b_faces_there_1.f) (env := [some (shapeE ps), some (.tup ds), none]) (fun d => d) (okF ps (ds.length - 1)) ds (by
        intro d hdm
        exact ⟨_, rfl, [some (shapeE ps), some (.tup ds), some d], rfl, there_body ps ds h2.1 d (hd d hdm)⟩)
      have k2 := forD_check (bind := (XG.n 2).f) (l := [2]) (body := b__law_fits_by_1.f) (env := [some (shapeE ps), some (.tup ds), none, none, none]) (fun d => d) (okF ps (ds.length - 1)) ds (by
        intro d hdm
        exact ⟨_, rfl, [some (shapeE ps), some (.tup ds), some d, none, none], rfl, by_body ps ds h2.1 d (hd d hdm) hz⟩)
      rw [List.map_id'] at k1 k2
      cases ho : ds.all (okF ps (ds.length - 1)) with
      | false =>
        rw [ho] at k1 k2
        simp at k1 k2
        constructor
        · have ft : pf_faces_there.F [shapeE ps, .tup ds] = some (.ok (.bl false)) := by
            simp only [pf_faces_there, runD_eq, B_faces_there, l_faces_there_1]
            simp [seqF, k1]
          simp [pf_fits, runD_eq, B_fits, s4, sz, ft]
        · simp only [pf__law_fits_by, runD_eq, B__law_fits_by, l__law_fits_by_1]
          simp [s4, sz, seqF, k2]
      | true =>
        rw [ho] at k1 k2
        simp at k1 k2
        obtain ⟨e, hf⟩ := ok_nats ho
        have hl : (ds.map toN).length = ds.length := List.length_map _
        have fm := F_meet (ps := ps) (fs := ds.map toN) (by omega) hz (by rw [hl]; exact hf)
        have bm := by_meet (ps := ps) (fs := ds.map toN) (by omega) hz (by rw [hl]; exact hf)
        rw [hl] at fm bm
        have pe : pieceE (ds.map toN) = .tup ds := by unfold pieceE; rw [← e]
        rw [pe] at fm bm
        generalize (decide (ds.length < 3) || meetAll ps (ds.map toN)) = m at *
        constructor
        · have ft : pf_faces_there.F [shapeE ps, .tup ds] = some (.ok (.bl true)) := by
            simp only [pf_faces_there, runD_eq, B_faces_there, l_faces_there_1]
            simp [seqF, k1]
          simp [pf_fits, runD_eq, B_fits, s4, sz, ft, fm]
        · simp only [pf__law_fits_by, runD_eq, B__law_fits_by, l__law_fits_by_1]
          simp [s4, sz, seqF, k2, bm]
          cases m <;> simp
  · have h' : szOk ds.length = false := by simpa using h
    rw [h'] at sz ⊢
    constructor
    · simp [pf_fits, runD_eq, B_fits, s4, sz]
    · simp [pf__law_fits_by, runD_eq, B__law_fits_by, s4, sz]
theorem F_lst (ps : D) (ds : List D) : pf_fits.F [ps, .lst ds] = some (.ok (.bl false)) ∧ pf__law_fits_by.F [ps, .lst ds] = some (.ok (.bl false)) := by
  constructor
  · simp [pf_fits, runD_eq, B_fits]
  · simp [pf__law_fits_by, runD_eq, B__law_fits_by]
/-! ### a list of data is equal to itself -/
def Rf (n : Nat) (x : D) : Prop := ∃ p, toPy x = some p ∧ p.canLay0 = true ∧ p.depth ≤ n ∧ PyData.eqv p p = true
theorem rf_of {α : Type} [DecidableEq α] {e : α → D} {n : Nat} (h : EqE e n) (a : α) : Rf n (e a) := by
  obtain ⟨pe, h1, h2, h3, h4⟩ := h.ex
  exact ⟨pe a, h1 a, h2 a, h3 a, by rw [h4]; simp⟩
theorem Rf.mono {n m : Nat} {x : D} (h : Rf n x) (hm : n ≤ m) : Rf m x := by
  obtain ⟨p, h1, h2, h3, h4⟩ := h
  exact ⟨p, h1, h2, by omega, h4⟩
theorem rf_lst {n : Nat} {xs : List D} (h : ∀ x ∈ xs, Rf n x) : Rf (n + 1) (.lst xs) := by
  have gen : ∃ ps, toPyL xs = some ps ∧ PyData.canLayAll0 ps = true ∧ PyData.depthAll ps ≤ n ∧ PyData.eqvAll ps ps = true := by
    induction xs with
    | nil => exact ⟨[], by rw [toPyL], rfl, Nat.zero_le _, rfl⟩
    | cons x xs ih =>
      obtain ⟨ps, a, b, c, d⟩ := ih fun y hy => h y (List.mem_cons_of_mem _ hy)
      obtain ⟨p, e, f, g, k⟩ := h x List.mem_cons_self
      refine ⟨p :: ps, by rw [toPyL, e, a], ?_, ?_, ?_⟩
      · show (p.canLay0 && PyData.canLayAll0 ps) = true
        rw [f, b]; rfl
      · show max p.depth (PyData.depthAll ps) ≤ n
        omega
      · show (PyData.eqv p p && PyData.eqvAll ps ps) = true
        rw [k, d]; rfl
  obtain ⟨ps, a, b, c, d⟩ := gen
  exact ⟨.list ps, by rw [toPy, a]; rfl, b, Nat.succ_le_succ c, d⟩
theorem eqF_rf {n : Nat} {x : D} (h : Rf n x) (hn : n ≤ 64) (neg : Bool) : eqF neg x x = some (.ok (.bl (!neg))) := by
  obtain ⟨p, h1, h2, h3, h4⟩ := h
  unfold eqF
  rw [h1]
  have s1 : SeqAt.shaped p = true := by
    unfold SeqAt.shaped
    rw [h2, Bool.true_and]
    exact decide_eq_true (by omega)
  show (if SeqAt.shaped p && SeqAt.shaped p then _ else _) = _
  rw [s1, h4]
  cases neg <;> rfl
theorem rf_tup {n : Nat} {xs : List D} (h : ∀ x ∈ xs, Rf n x) : Rf (n + 1) (.tup xs) := by
  have gen : ∃ ps, toPyL xs = some ps ∧ PyData.canLayAll0 ps = true ∧ PyData.depthAll ps ≤ n ∧ PyData.eqvAll ps ps = true := by
    induction xs with
    | nil => exact ⟨[], by rw [toPyL], rfl, Nat.zero_le _, rfl⟩
    | cons x xs ih =>
      obtain ⟨ps, a, b, c, d⟩ := ih fun y hy => h y (List.mem_cons_of_mem _ hy)
      obtain ⟨p, e, f, g, k⟩ := h x List.mem_cons_self
      refine ⟨p :: ps, by rw [toPyL, e, a], ?_, ?_, ?_⟩
      · show (p.canLay0 && PyData.canLayAll0 ps) = true
        rw [f, b]; rfl
      · show max p.depth (PyData.depthAll ps) ≤ n
        omega
      · show (PyData.eqv p p && PyData.eqvAll ps ps) = true
        rw [k, d]; rfl
  obtain ⟨ps, a, b, c, d⟩ := gen
  exact ⟨.tuple ps, by rw [toPy, a]; rfl, b, Nat.succ_le_succ c, d⟩
theorem eqF_strs {a b : Str} (ha : a.cps.all (fun x => decide (x < 0x110000)) = true) (hb : b.cps.all (fun x => decide (x < 0x110000)) = true) (n : Bool) : eqF n (.str a) (.str b) = some (.ok (.bl (if n then !(a == b) else (a == b)))) := by
  have sh : ∀ s : Str, s.cps.all (fun x => decide (x < 0x110000)) = true → SeqAt.shaped (.str s) = true := fun s h => by
    unfold SeqAt.shaped
    rw [Bool.and_eq_true]
    exact ⟨h, decide_eq_true (by show (0 : Nat) ≤ _; omega)⟩
  show (if (SeqAt.shaped (.str a) && SeqAt.shaped (.str b)) = true then _ else _) = _
  rw [sh a ha, sh b hb]
  rfl
/-! ### lists of things -/
/-- what may stand in the list -/
inductive Itm : D → Prop
  | tup (ds : List D) (h : ∀ d ∈ ds, Odd d) : Itm (.tup ds)
  | lst (ds : List D) : Itm (.lst ds)
  | non : Itm .non
  | str (s : Str) : Itm (.str s)
def fitB (ps : List (List Nat)) (d : D) : Bool := match d with
  | .tup ds => vv ps ds
  | _ => false
def toP : D → List Nat
  | .tup ds => ds.map toN
  | _ => []
theorem F_fit2 {ps : List (List Nat)} (hz : ∀ i, (pAt ps i).length ≠ 1) {d : D} (hd : Itm d) :
    pf_fits.F [shapeE ps, d] = some (.ok (.bl (fitB ps d))) ∧ pf__law_fits_by.F [shapeE ps, d] = some (.ok (.bl (fitB ps d))) := by
  cases hd with
  | tup ds h => exact F_both hz ds h
  | lst ds => exact F_lst _ ds
  | non => exact ⟨by simp [pf_fits, runD_eq, B_fits, fitB, isiD], by simp [pf__law_fits_by, runD_eq, B__law_fits_by, fitB, isiD]⟩
  | str s => exact ⟨by simp [pf_fits, runD_eq, B_fits, fitB, isiD], by simp [pf__law_fits_by, runD_eq, B__law_fits_by, fitB, isiD]⟩
theorem fit_piece {ps : List (List Nat)} {d : D} (h : fitB ps d = true) : d = pieceE (toP d) ∧ szOk (toP d).length = true := by
  unfold fitB at h
  split at h
  · next ds =>
    unfold vv at h
    rw [Bool.and_eq_true, Bool.and_eq_true] at h
    obtain ⟨e, _⟩ := ok_nats h.2.1
    refine ⟨?_, ?_⟩
    · show D.tup ds = D.tup ((ds.map toN).map natE)
      rw [← e]
    · show szOk (ds.map toN).length = true
      rw [List.length_map]; exact h.1
  · cases h
/-- the place of the first that does not fit -/
def badAt : List (List Nat) → List D → Option Nat
  | _, [] => none
  | ps, d :: ds => if fitB ps d = true then badAt (ps ++ [toP d]) ds else some ps.length
theorem pAt_sz {ps : List (List Nat)} (h : ∀ p ∈ ps, szOk p.length = true) : ∀ i, (pAt ps i).length ≠ 1 := by
  intro i
  unfold pAt
  rw [List.getD_eq_getElem?_getD]
  rcases Nat.lt_or_ge i ps.length with c | c
  · rw [List.getElem?_eq_getElem c]
    have := h _ (List.getElem_mem c)
    unfold szOk at this
    have := of_decide_eq_true this
    show ps[i].length ≠ 1
    omega
  · rw [List.getElem?_eq_none c]; decide
theorem shapeE_app (ps : List (List Nat)) (p : List Nat) : shapeE (ps ++ [p]) = .lst (ps.map pieceE ++ [pieceE p]) := by
  unfold shapeE; rw [List.map_append]; rfl
theorem first_loop (T : D) : ∀ (ds : List D) (ps : List (List Nat)), (∀ d ∈ ds, Itm d) → (∀ p ∈ ps, szOk p.length = true) → ps.length + ds.length ≤ 1000 →
    forD (XG.n 2).f b_first_bad_1.f [2] ds [some T, some (shapeE ps), none] = match badAt ps ds with
      | some n => some (.rt (.int (n : Int)))
      | none => some (.nx [some T, some (shapeE (ps ++ ds.map toP)), none])
  | [], ps, _, _, _ => by rw [forD, badAt, List.map_nil, List.append_nil]
  | d :: ds, ps, hi, hs, hl => by
    have hd := hi d List.mem_cons_self
    have f := (F_fit2 (pAt_sz hs) hd).1
    rw [List.length_cons] at hl
    rw [forD, badAt]
    show loopK (b_first_bad_1.f [some T, some (shapeE ps), some d]) _ _ = _
    cases hb : fitB ps d with
    | false =>
      rw [hb] at f
      have e : b_first_bad_1.f [some T, some (shapeE ps), some d] = some (.rt (.int (ps.length : Int))) := by
        simp [b_first_bad_1, f, shapeE_len]
      rw [e]
      simp [loopK]
    | true =>
      rw [hb] at f
      obtain ⟨e1, e2⟩ := fit_piece hb
      have e : b_first_bad_1.f [some T, some (shapeE ps), some d] = some (.nx [some T, some (shapeE (ps ++ [toP d])), some d]) := by
        have hlt : (ps.map pieceE).length < sizeLine := by rw [List.length_map]; exact len_lt (by omega)
        have im : immD d = true := by rw [e1]; exact immD_pieceE _
        rw [shapeE_app, ← e1]
        unfold shapeE at f ⊢
        simp only [b_first_bad_1, app_s]
        simp [f, im, hlt]
        simp at hlt
        simp [hlt]
      rw [e]
      simp only [loopK, if_true]
      have ih := first_loop T ds (ps ++ [toP d]) (fun x hx => hi x (List.mem_cons_of_mem _ hx)) (fun p hp => by
        rcases List.mem_append.mp hp with hp | hp
        · exact hs p hp
        · rw [List.mem_singleton.mp hp]; exact e2) (by rw [List.length_append]; simp; omega)
      have ek : killE [2] [some T, some (shapeE (ps ++ [toP d])), some d] = [some T, some (shapeE (ps ++ [toP d])), none] := rfl
      rw [ek, ih, List.map_cons, List.append_assoc, List.singleton_append]
def badD (o : Option Nat) : D := match o with
  | some n => .int (n : Int)
  | none => .non
theorem F_first_bad {ds : List D} (hi : ∀ d ∈ ds, Itm d) (hl : ds.length ≤ 500) : pf_first_bad.F [.lst ds] = some (.ok (badD (badAt [] ds))) := by
  have key := first_loop (.lst ds) ds [] hi (fun p hp => by cases hp) (by simp; omega)
  have e0 : shapeE [] = .lst [] := rfl
  have z0 : 0 ≤ sizeLine := Nat.zero_le _
  rw [e0] at key
  have lp : l_first_bad_1.f [some (.lst ds), some (.lst []), none] = forD (XG.n 2).f b_first_bad_1.f [2] ds [some (.lst ds), some (.lst []), none] := by
    simp only [l_first_bad_1]
    simp [seqF]
  rw [← lp] at key
  cases h : badAt [] ds with
  | some n => rw [h] at key; simp [pf_first_bad, runD_eq, B_first_bad, z0, key, badD]
  | none => rw [h] at key; simp [pf_first_bad, runD_eq, B_first_bad, z0, key, badD]
theorem bad_none : ∀ (ds : List D) (ps : List (List Nat)), badAt ps ds = none → ds = (ds.map toP).map pieceE
  | [], _, _ => rfl
  | d :: ds, ps, h => by
    rw [badAt] at h
    split at h
    · next hb =>
      have := bad_none ds _ h
      rw [List.map_cons, List.map_cons, ← this, ← (fit_piece hb).1]
    · cases h
/-! ### names -/
def ABC : List Nat := [97,98,99,100,101,102,103,104,105,106,107,108,109,110,111,112,113,114,115,116,117,118,119,120,121,122]
theorem abc_sE : D.str "abcdefghijklmnopqrstuvwxyz" = sE ABC := congrArg D.str (by decide +kernel : ("abcdefghijklmnopqrstuvwxyz" : Str) = mkS ABC)
theorem sem_sE : D.str "; " = sE [59, 32] := congrArg D.str (by decide +kernel : ("; " : Str) = mkS [59, 32])
theorem blk_sE : D.str " " = sE [32] := congrArg D.str (by decide +kernel : (" " : Str) = mkS [32])
theorem abc_get (m : Nat) : ABC.getD (m % 26) 0 = 97 + m % 26 := by
  have h : m % 26 < 26 := Nat.mod_lt _ (by decide)
  have : ∀ k, k < 26 → ABC.getD k 0 = 97 + k := by decide
  exact this _ h
theorem abc_mem {c : Nat} (h1 : 97 ≤ c) (h2 : c ≤ 122) : c ∈ ABC := by
  have : ∀ k, k < 26 → 97 + k ∈ ABC := by decide
  have := this (c - 97) (by omega)
  rwa [(by omega : 97 + (c - 97) = c)] at this
def digs : Nat → Nat → List Nat
  | 0, _ => []
  | k + 1, m => (97 + m % 26) :: digs k (m / 26)
theorem digs_len : ∀ k m, (digs k m).length = k
  | 0, _ => rfl
  | k + 1, m => by rw [digs, List.length_cons, digs_len k]
theorem digs_let : ∀ k m, ∀ c ∈ digs k m, 97 ≤ c ∧ c ≤ 122
  | 0, _, c, h => by cases h
  | k + 1, m, c, h => by
    rw [digs] at h
    rcases List.mem_cons.mp h with rfl | h
    · have := Nat.mod_lt m (by decide : 0 < 26); omega
    · exact digs_let k _ c h
theorem digs_inj : ∀ k m n, m < 26 ^ k → n < 26 ^ k → digs k m = digs k n → m = n
  | 0, m, n, hm, hn, _ => by simp at hm hn; omega
  | k + 1, m, n, hm, hn, h => by
    rw [digs, digs] at h
    injection h with h1 h2
    have e : 26 ^ (k + 1) = 26 * 26 ^ k := by rw [Nat.pow_succ, Nat.mul_comm]
    have := digs_inj k (m / 26) (n / 26) (by rw [e] at hm; exact Nat.div_lt_of_lt_mul hm) (by rw [e] at hn; exact Nat.div_lt_of_lt_mul hn) h2
    omega
def nameW (s n : Nat) : List Nat := (List.range s).map (97 + ·) ++ digs (1 + n % 4) (n / 4)
def IsN (w : List Nat) : Prop := 1 ≤ w.length ∧ w.length ≤ 8 ∧ ∀ c ∈ w, 97 ≤ c ∧ c ≤ 122
theorem nameW_is {s n : Nat} (h : s ≤ 4) : IsN (nameW s n) := by
  have h4 : n % 4 < 4 := Nat.mod_lt _ (by decide)
  refine ⟨?_, ?_, fun c hc => ?_⟩
  · unfold nameW; rw [List.length_append, digs_len]; omega
  · unfold nameW; rw [List.length_append, digs_len, List.length_map, List.length_range]; omega
  · rcases List.mem_append.mp hc with hc | hc
    · obtain ⟨k, hk, rfl⟩ := List.mem_map.mp hc
      have := List.mem_range.mp hk
      omega
    · exact digs_let _ _ c hc
theorem name_loop (w0 : List Nat) (hw : w0.length ≤ 10) (v1 v3 : Option D) : ∀ (k : Nat), k ≤ 4 → ∀ m : Nat, forD (XG.n 4).f b__law_name_by_1.f [4] ((List.range k).map natE) [some (natE m), v1, some (sE w0), v3, none] = some (.nx [some (natE (m / 26 ^ k)), v1, some (sE (w0 ++ digs k m)), v3, none]) := by
  have gen : ∀ (xs : List Nat) (m : Nat) (w : List Nat), w.length + xs.length ≤ 14 → forD (XG.n 4).f b__law_name_by_1.f [4] (xs.map natE) [some (natE m), v1, some (sE w), v3, none] = some (.nx [some (natE (m / 26 ^ xs.length)), v1, some (sE (w ++ digs xs.length m)), v3, none]) := by
    intro xs
    induction xs with
    | nil => intro m w _; simp [forD, digs]
    | cons x xs ih =>
      intro m w hl
      rw [List.length_cons] at hl
      have sz : w.length + 1 ≤ sizeLine := by rw [szl]; omega
      have m1 : IOp.mod.g (m : Int) 26 = some (.int ((m % 26 : Nat) : Int)) := by
        rw [mod_g (by decide), fmod_pos (by decide)]; rfl
      have d1 : IOp.fdv.g (m : Int) 26 = some (.int ((m / 26 : Nat) : Int)) := by
        rw [fdv_g (cdiv_of 8 (by decide) (by decide))]; rfl
      have ix := sE_ix ABC (m % 26) (Nat.mod_lt _ (by decide)) (by rw [szl]; decide)
      rw [abc_get] at ix
      have ad := sE_add true w [97 + m % 26] sz
      have b1 : b__law_name_by_1.f [some (natE m), v1, some (sE w), v3, some (natE x)] = some (.nx [some (natE (m / 26)), v1, some (sE (w ++ [97 + m % 26])), v3, some (natE x)]) := by
        generalize m % 26 = r at *
        generalize m / 26 = q at *
        simp [b__law_name_by_1, natE_def, abc_sE, m1, d1, ix, ad]
      have ih' := ih (m / 26) (w ++ [97 + m % 26]) (by rw [List.length_append, List.length_singleton]; omega)
      rw [List.map_cons, forD]
      show loopK (b__law_name_by_1.f [some (natE m), v1, some (sE w), v3, some (natE x)]) _ [4] = _
      rw [b1]
      show forD (XG.n 4).f b__law_name_by_1.f [4] (xs.map natE) [some (natE (m / 26)), v1, some (sE (w ++ [97 + m % 26])), v3, none] = _
      rw [ih', List.length_cons, digs, List.append_assoc, Nat.div_div_eq_div_mul, Nat.pow_succ, Nat.mul_comm 26]
      rfl
  intro k hk m
  have := gen (List.range k) m w0 (by rw [List.length_range]; omega)
  rwa [List.length_range] at this
theorem F_name_by (n s : Nat) (hs : s ≤ 4) : pf__law_name_by.F [natE n, natE s] = some (.ok (sE (nameW s n))) := by
  have h4 : n % 4 < 4 := Nat.mod_lt _ (by decide)
  have m1 : IOp.mod.g (n : Int) 4 = some (.int ((n % 4 : Nat) : Int)) := by
    rw [mod_g (by decide), fmod_pos (by decide)]; rfl
  have d1 : IOp.fdv.g (n : Int) 4 = some (.int ((n / 4 : Nat) : Int)) := by
    rw [fdv_g (cdiv_of 8 (by decide) (by decide))]; rfl
  have st : slF false (.str "abcdefghijklmnopq") none (some (s : Int)) = some (.ok (sE ((List.range s).map (97 + ·)))) := by
    have : ∀ k : Nat, k < 5 → cutS "abcdefghijklmnopq" none (some (k : Int)) = mkS ((List.range k).map (97 + ·)) := by decide +kernel
    show (if Str.length "abcdefghijklmnopq" ≤ sizeLine then some (DL.R.ok (D.str (cutS "abcdefghijklmnopq" none (some (s : Int))))) else none) = _
    rw [if_pos (by rw [szl]; decide +kernel), this s (by omega)]; rfl
  have rg : rg1F [.int ((1 : Int) + ((n % 4 : Nat) : Int))] = some (.ok ((List.range (1 + n % 4)).map natE)) := by
    have := rgn (1 + n % 4) (by omega)
    push_cast at this ⊢
    exact this
  have lp := name_loop ((List.range s).map (97 + ·)) (by simp; omega) (some (natE s)) (some (.int ((1 : Int) + ((n % 4 : Nat) : Int)))) (1 + n % 4) (by omega) (n / 4)
  have l1 : l__law_name_by_1.f [some (.int ((n / 4 : Nat) : Int)), some (.int (s : Int)), some (sE ((List.range s).map (97 + ·))), some (.int ((1 : Int) + ((n % 4 : Nat) : Int))), none] = some (.nx [some (natE (n / 4 / 26 ^ (1 + n % 4))), some (natE s), some (sE (nameW s n)), some (.int ((1 : Int) + ((n % 4 : Nat) : Int))), none]) := by
    simp only [l__law_name_by_1, for_f, ir1_f, acons_f, anil_f, var_f, eget_succ, eget_zero, bA_ok, bLI_ok, rg, bSI_ok]
    exact lp
  generalize ((List.range s).map (97 + ·)) = w0 at *
  generalize (n / 4) = q at *
  generalize (n % 4) = r at *
  simp [pf__law_name_by, runD_eq, B__law_name_by, natE_def, m1, d1, st, l1]
/-! ### unlike names -/
theorem nodup_leW : ∀ (a b : List (List Nat)), a.Nodup → (∀ x ∈ a, x ∈ b) → a.length ≤ b.length
  | [], b, _, _ => Nat.zero_le _
  | x :: a, b, hn, h => by
    rw [List.nodup_cons] at hn
    have hb := h x List.mem_cons_self
    have := nodup_leW a (b.erase x) hn.2 fun y hy => by
      have : y ≠ x := fun z => hn.1 (z ▸ hy)
      exact (List.mem_erase_of_ne this).mpr (h y (List.mem_cons_of_mem _ hy))
    rw [List.length_erase_of_mem hb] at this
    have : 0 < b.length := List.length_pos_of_mem hb
    rw [List.length_cons]; omega
theorem free_name {s n0 : Nat} (hn : n0 < 500000) {ws : List (List Nat)} (hl : ws.length ≤ 40) : ∃ d, d ≤ 200 ∧ nameW s (n0 + d) ∉ ws := by
  apply Classical.byContradiction
  intro hno
  have hin : ∀ d, d ≤ 200 → nameW s (n0 + d) ∈ ws := fun d hd => Classical.byContradiction fun z => hno ⟨d, hd, z⟩
  obtain ⟨e, he, h3⟩ : ∃ e, e ≤ 3 ∧ (n0 + e) % 4 = 3 := ⟨3 - n0 % 4, by omega, by omega⟩
  have hnd : ((List.range 41).map fun i => nameW s (n0 + e + 4 * i)).Nodup := by
    refine List.pairwise_map.mpr ((List.nodup_range (n := 41)).imp_of_mem fun {a b} ha hb hab => fun z => hab ?_)
    have ha := List.mem_range.mp ha
    have hb := List.mem_range.mp hb
    unfold nameW at z
    have z := List.append_cancel_left z
    have ea : (n0 + e + 4 * a) % 4 = 3 := by omega
    have eb : (n0 + e + 4 * b) % 4 = 3 := by omega
    rw [ea, eb] at z
    have := digs_inj 4 _ _ (by show _ < 456976; omega) (by show _ < 456976; omega) z
    omega
  have := nodup_leW _ ws hnd fun x hx => by
    obtain ⟨i, hi, rfl⟩ := List.mem_map.mp hx
    have hi := List.mem_range.mp hi
    have := hin (e + 4 * i) (by omega)
    rwa [← Nat.add_assoc] at this
  rw [List.length_map, List.length_range] at this
  omega
structure Names (n : Nat) (ws : List (List Nat)) : Prop where
  len : ws.length = n
  nd : ws.Nodup
  is : ∀ w ∈ ws, IsN w
theorem names_turn (cell : Int) {k j : Nat} (hk : k < 40) (hj : j < 40) {ws : List (List Nat)} (hN : Names j ws) (v1 : Option D) :
    ∃ w, Names (j + 1) (ws ++ [w]) ∧ ∃ n, b__law_names_by_2.f [some (.int cell), v1, some (.lst (ws.map sE)), some (natE k), none, none] = some (.nx [some (.int cell), v1, some (.lst ((ws ++ [w]).map sE)), some (natE k), some (natE n), some (sE w)]) := by
  obtain ⟨a, ha, ea⟩ := small_fmod cell 1000003 (by decide)
  obtain ⟨s, hs, es⟩ := small_fmod cell 5 (by decide)
  simp at ea es
  have m1 : IOp.mod.g cell 1000003 = some (.int (a : Int)) := by rw [mod_g (by decide), ea]
  have m5 : IOp.mod.g cell 5 = some (.int (s : Int)) := by rw [mod_g (by decide), es]
  have p1 : IOp.mul.g (a : Int) 48271 = some (.int ((a : Int) * 48271)) := mul_g (cmul_of 40 40 (by omega) (by decide))
  have p2 : IOp.mul.g (k : Int) (k : Int) = some (.int ((k : Int) * k)) := mul_g (cmul_of 40 40 (by omega) (by omega))
  have b2 : ((k : Int) * k).natAbs < 2 ^ 40 := by
    rw [Int.natAbs_mul]
    have : (k : Int).natAbs = k := Int.natAbs_natCast k
    rw [this]
    have : k * k ≤ 40 * 40 := Nat.mul_le_mul (by omega) (by omega)
    omega
  have p3 : IOp.mul.g ((k : Int) * k) 7907 = some (.int ((k : Int) * k * 7907)) := mul_g (cmul_of 40 40 b2 (by decide))
  have p4 : IOp.mul.g (k : Int) 131 = some (.int ((k : Int) * 131)) := mul_g (cmul_of 40 40 (by omega) (by decide))
  obtain ⟨n0, hn0, e0⟩ := small_fmod ((a : Int) * 48271 + (k : Int) * k * 7907 + (k : Int) * 131) 400009 (by decide)
  simp at e0
  have m0 : IOp.mod.g ((a : Int) * 48271 + (k : Int) * k * 7907 + (k : Int) * 131) 400009 = some (.int (n0 : Int)) := by rw [mod_g (by decide), e0]
  -- the search
  obtain ⟨d, hd, hfree⟩ := free_name (s := s) (n0 := n0) (by omega) (ws := ws) (by have := hN.len; omega)
  obtain ⟨w1, w2, w3⟩ := whlD_it (α := Nat) (c := (XT.v (.inn false (.var 5) (.var 2))).f) (body := b__law_names_by_1.f) (l := []) (fun n => [some (.int cell), v1, some (.lst (ws.map sE)), some (natE k), some (natE n), some (sE (nameW s n))])
    (fun n => decide (nameW s n ∈ ws)) (· + 1) (fun n => n ≤ n0 + d) (fun n => n0 + d - n) (by
      intro n _
      simp [inAF_strs]) (by
      intro n hI hgo
      have hne : n ≠ n0 + d := fun z => by
        rw [z] at hgo
        exact hfree (of_decide_eq_true hgo)
      refine ⟨⟨[some (.int cell), v1, some (.lst (ws.map sE)), some (natE k), some (natE (n + 1)), some (sE (nameW s (n + 1)))], ?_, rfl⟩, by omega, by omega⟩
      have fn := F_name_by (n + 1) s (by omega)
      have e1 : natE (n + 1) = .int ((n : Int) + 1) := by rw [natE_def]; push_cast; rfl
      rw [e1] at fn ⊢
      simp [b__law_names_by_1, natE_def, m5]
      rw [natE_def] at fn
      rw [fn]; simp) 100000 n0 (by omega) (by omega)
  generalize itW _ _ _ n0 = n at w1 w2 w3
  have w3 : nameW s n ∉ ws := by simpa using w3
  refine ⟨nameW s n, ⟨by rw [List.length_append, hN.len]; rfl, ?_, fun w hw => ?_⟩, n, ?_⟩
  · refine List.nodup_append.mpr ⟨hN.nd, by simp, fun a ha b hb z => ?_⟩
    rw [List.mem_singleton.mp hb] at z
    exact w3 (z ▸ ha)
  · rcases List.mem_append.mp hw with hw | hw
    · exact hN.is w hw
    · rw [List.mem_singleton.mp hw]; exact nameW_is (by omega)
  · have fn := F_name_by n0 s (by omega)
    rw [natE_def, natE_def] at fn
    have sz : ws.length < sizeLine := by rw [hN.len, szl]; omega
    simp only [b__law_names_by_2, l__law_names_by_1]
    simp only [natE_def] at w1
    simp [natE_def, m1, m5, p1, p2, p3, p4, m0, fn, w1, sz]
theorem F_names_by (cell : Int) (m : Nat) (hm : m ≤ 40) : ∃ ws, Names m ws ∧ pf__law_names_by.F [.int cell, natE m] = some (.ok (.lst (ws.map sE))) := by
  obtain ⟨ws, k1, k2⟩ := forD_cnt (α := Nat) (β := List (List Nat)) (bind := (XG.n 3).f) (l := [3, 4, 5]) (body := b__law_names_by_2.f) (fun ws => [some (.int cell), some (natE m), some (.lst (ws.map sE)), none, none, none])
    natE Names (List.range m) 0 [] ⟨rfl, by simp, fun w hw => by cases hw⟩ (by
      intro j ws x hx h0 hj hN
      have hx := List.mem_range.mp hx
      rw [List.length_range] at hj
      obtain ⟨w, hw, n, e⟩ := names_turn cell (k := x) (by omega) (by omega) hN (some (natE m))
      exact ⟨_, rfl, ws ++ [w], _, .inl e, rfl, hw⟩)
  rw [List.length_range, Nat.zero_add] at k2
  refine ⟨ws, k2, ?_⟩
  have l1 : l__law_names_by_2.f [some (.int cell), some (natE m), some (.lst []), none, none, none] = some (.nx [some (.int cell), some (natE m), some (.lst (ws.map sE)), none, none, none]) := by
    simp only [l__law_names_by_2, for_f, ir1_f, acons_f, anil_f, var_f, eget_succ, eget_zero, bA_ok, bLI_ok, natE_def, rgn m (by omega), bSI_ok]
    exact k1
  rw [natE_def] at l1 ⊢
  simp [pf__law_names_by, runD_eq, B__law_names_by, l1]
/-! ### a shape's text -/
def nmAt (ws : List (List Nat)) (i : Nat) : List Nat := ws.getD i []
def rowW (ws : List (List Nat)) (ps : List (List Nat)) (i : Nat) : List (List Nat) := nmAt ws i :: (pAt ps i).map (nmAt ws)
def rowT (ws : List (List Nat)) (ps : List (List Nat)) (i : Nat) : List Nat := jn [32] (rowW ws ps i)
def textT (ws : List (List Nat)) (ps : List (List Nat)) : List Nat := jn [59, 32] ((List.range ps.length).map (rowT ws ps))
theorem nm_ix {ws : List (List Nat)} {i : Nat} (h : i < ws.length) : ixF (.lst (ws.map sE)) (.int (i : Int)) = some (.ok (sE (nmAt ws i))) := by
  rw [ix_map sE ws i h]; simp [nmAt, h]
theorem nm_mem {ws : List (List Nat)} {i : Nat} (h : i < ws.length) : nmAt ws i ∈ ws := by
  unfold nmAt; rw [List.getD_eq_getElem?_getD, List.getElem?_eq_getElem h]; exact List.getElem_mem h
theorem rowT_eq (ws ps : List (List Nat)) (i : Nat) : rowT ws ps i = nmAt ws i ++ (pAt ps i).flatMap fun f => 32 :: nmAt ws f := by
  unfold rowT rowW
  rw [jn_cons, List.flatMap_map]; rfl
theorem flat_len8 {ws : List (List Nat)} (h8 : ∀ f, (nmAt ws f).length ≤ 8) : ∀ fs : List Nat, (fs.flatMap fun f => 32 :: nmAt ws f).length ≤ 9 * fs.length
  | [] => by simp
  | f :: fs => by
    rw [List.flatMap_cons, List.length_append, List.length_cons, List.length_cons]
    have := flat_len8 h8 fs
    have := h8 f
    omega
/-- what the law makes stands so -/
structure Tx (ws ps : List (List Nat)) : Prop where
  nm : Names ps.length ws
  le : ps.length ≤ 40
  sz : ∀ i, (pAt ps i).length ≤ 4
  pl : ∀ i f, f ∈ pAt ps i → f < ps.length
theorem Tx.le8 {ws ps : List (List Nat)} (h : Tx ws ps) (f : Nat) : (nmAt ws f).length ≤ 8 := by
  by_cases c : f < ws.length
  · exact (h.nm.is _ (nm_mem c)).2.1
  · unfold nmAt; rw [List.getD_eq_getElem?_getD, List.getElem?_eq_none (by omega)]; simp
theorem Tx.row {ws ps : List (List Nat)} (h : Tx ws ps) (i : Nat) : (rowT ws ps i).length ≤ 44 := by
  rw [rowT_eq, List.length_append]
  have := flat_len8 h.le8 (pAt ps i)
  have := h.le8 i
  have := h.sz i
  omega
theorem sum_le {n : Nat} : ∀ xs : List Nat, (∀ x ∈ xs, x ≤ n) → xs.sum ≤ n * xs.length
  | [], _ => by simp
  | x :: xs, h => by
    rw [List.sum_cons, List.length_cons, Nat.mul_succ]
    have := sum_le xs fun y hy => h y (List.mem_cons_of_mem _ hy)
    have := h x List.mem_cons_self
    omega
theorem jn_len (S : List Nat) : ∀ ws : List (List Nat), (jn S ws).length ≤ (ws.map (·.length)).sum + ws.length * S.length
  | [] => by simp [jn_nil]
  | w :: ws => by
    rw [jn_cons]
    have : ∀ us : List (List Nat), (us.flatMap (S ++ ·)).length = (us.map (·.length)).sum + us.length * S.length := by
      intro us
      induction us with
      | nil => simp
      | cons u us ih =>
        rw [List.flatMap_cons, List.length_append, ih, List.length_append, List.map_cons, List.sum_cons, List.length_cons, Nat.succ_mul]
        omega
    rw [List.length_append, this, List.map_cons, List.sum_cons, List.length_cons, Nat.succ_mul]
    omega
theorem Tx.rows_sum {ws ps : List (List Nat)} (h : Tx ws ps) : (((List.range ps.length).map (rowT ws ps)).map (·.length)).sum + ((List.range ps.length).map (rowT ws ps)).length * 2 ≤ 2000 := by
  have h1 := sum_le (n := 44) (((List.range ps.length).map (rowT ws ps)).map (·.length)) fun x hx => by
    obtain ⟨r, hr, rfl⟩ := List.mem_map.mp hx
    obtain ⟨i, _, rfl⟩ := List.mem_map.mp hr
    exact h.row i
  have := h.le
  simp only [List.length_map, List.length_range] at h1 ⊢
  omega
theorem Tx.text_len {ws ps : List (List Nat)} (h : Tx ws ps) : (textT ws ps).length ≤ 2000 := Nat.le_trans (jn_len _ _) h.rows_sum
theorem Tx.join {ws ps : List (List Nat)} (h : Tx ws ps) : joinF (sE [59, 32]) (.lst (((List.range ps.length).map (rowT ws ps)).map sE)) = some (.ok (sE (textT ws ps))) :=
  joinF_sE _ _ (Nat.le_trans h.rows_sum (by decide))
theorem text_row {ws : List (List Nat)} (h8 : ∀ f, (nmAt ws f).length ≤ 8) (v0 v2 v3 : Option D) : ∀ (fs : List Nat) (w : List Nat), (∀ f ∈ fs, f < ws.length) → w.length + 9 * fs.length ≤ 100 →
    forD (XG.n 5).f b__law_text_by_1.f [5] (fs.map natE) [v0, some (.lst (ws.map sE)), v2, v3, some (sE w), none] = some (.nx [v0, some (.lst (ws.map sE)), v2, v3, some (sE (w ++ fs.flatMap fun f => 32 :: nmAt ws f)), none])
  | [], w, _, _ => by simp [forD]
  | f :: fs, w, hf, hl => by
    rw [List.length_cons] at hl
    have h8f := h8 f
    have ix := nm_ix (hf f List.mem_cons_self)
    have a1 := sE_add false w [32] (by rw [szl]; simp; omega)
    have a2 := sE_add true (w ++ [32]) (nmAt ws f) (by rw [szl]; simp; omega)
    have b1 : b__law_text_by_1.f [v0, some (.lst (ws.map sE)), v2, v3, some (sE w), some (natE f)] = some (.nx [v0, some (.lst (ws.map sE)), v2, v3, some (sE (w ++ [32] ++ nmAt ws f)), some (natE f)]) := by
      generalize nmAt ws f = m at *
      simp [b__law_text_by_1, natE_def, blk_sE, ix, a1] at *
      simp [a2]
    have ih := text_row h8 v0 v2 v3 fs (w ++ [32] ++ nmAt ws f) (fun g hg => hf g (List.mem_cons_of_mem _ hg)) (by simp; omega)
    rw [List.map_cons, forD]
    show loopK (b__law_text_by_1.f [v0, some (.lst (ws.map sE)), v2, v3, some (sE w), some (natE f)]) _ [5] = _
    rw [b1]
    show forD (XG.n 5).f b__law_text_by_1.f [5] (fs.map natE) [v0, some (.lst (ws.map sE)), v2, v3, some (sE (w ++ [32] ++ nmAt ws f)), none] = _
    rw [ih, List.flatMap_cons]
    simp
theorem F_text_by {ws ps : List (List Nat)} (h : Tx ws ps) : pf__law_text_by.F [shapeE ps, .lst (ws.map sE)] = some (.ok (sE (textT ws ps))) := by
  have hle := h.le
  have hlen := h.nm.len
  have key := forD_push (bind := (XG.n 3).f) (body := b__law_text_by_2.f) (l := [3, 4, 5]) (fun acc => [some (shapeE ps), some (.lst (ws.map sE)), some (.lst acc), none, none, none]) natE (fun i => sE (rowT ws ps i)) (List.range ps.length) [] (by
    intro acc i hi hz
    have hi := List.mem_range.mp hi
    refine ⟨_, rfl, [some (shapeE ps), some (.lst (ws.map sE)), some (.lst (acc ++ [sE (rowT ws ps i)])), some (natE i), some (sE (rowT ws ps i)), none], .inl ?_, rfl⟩
    have ix := nm_ix (ws := ws) (i := i) (by omega)
    have ip := ix_pAt hi
    have sq : seqF false (pieceE (pAt ps i)) = some (.ok ((pAt ps i).map natE)) := rfl
    have h8 := h.le8 i
    have h4 := h.sz i
    have lp := text_row h.le8 (some (shapeE ps)) (some (.lst acc)) (some (natE i)) (pAt ps i) (nmAt ws i) (fun f hf => by have := h.pl i f hf; omega) (by omega)
    rw [← rowT_eq] at lp
    have l1 : l__law_text_by_1.f [some (shapeE ps), some (.lst (ws.map sE)), some (.lst acc), some (natE i), some (sE (nmAt ws i)), none] = some (.nx [some (shapeE ps), some (.lst (ws.map sE)), some (.lst acc), some (natE i), some (sE (rowT ws ps i)), none]) := by
      rw [natE_def] at lp ⊢
      simp only [l__law_text_by_1]
      simp [ip, sq, lp]
    generalize rowT ws ps i = rt at *
    generalize nmAt ws i = nm at *
    generalize shapeE ps = SH at *
    generalize ws.map sE = WS at *
    simp only [b__law_text_by_2]
    rw [natE_def] at l1 ⊢
    simp [ix, l1, hz]) (by rw [List.length_range, szl]; simp; omega)
  have l2 : l__law_text_by_2.f [some (shapeE ps), some (.lst (ws.map sE)), some (.lst []), none, none, none] = some (.nx [some (shapeE ps), some (.lst (ws.map sE)), some (.lst (((List.range ps.length).map (rowT ws ps)).map sE)), none, none, none]) := by
    simp only [l__law_text_by_2, for_f, ir1_f, acons_f, anil_f, bi_f, len_g, var_f, eget_succ, eget_zero, bA_ok, bL_ok, shapeE_len, Option.map_some, bLI_ok, rgn ps.length (by omega), bSI_ok]
    rw [List.map_map]
    exact key
  have jj := h.join
  generalize ((List.range ps.length).map (rowT ws ps)).map sE = RS at *
  generalize textT ws ps = tt at *
  simp [pf__law_text_by, runD_eq, B__law_text_by, l2, sem_sE, jj]
/-! ### the text read: its rows -/
theorem F_is_name {w : List Nat} (h : IsN w) : pf_is_name.F [sE w] = some (.ok (.bl true)) := by
  obtain ⟨h1, h8, hc⟩ := h
  have key := forD_check (bind := (XG.n 1).f) (l := [1]) (body := b_is_name_1.f) (env := [some (sE w), none]) (fun c => sE [c]) (fun c => decide (c ∈ ABC)) w (by
    intro c _
    refine ⟨_, rfl, [some (sE w), some (sE [c])], rfl, ?_⟩
    have := sgnF_one true c ABC
    by_cases q : c ∈ ABC <;> simp [b_is_name_1, abc_sE, this, q])
  have all : w.all (fun c => decide (c ∈ ABC)) = true := List.all_eq_true.mpr fun c hcw => decide_eq_true (abc_mem (hc c hcw).1 (hc c hcw).2)
  rw [all, if_pos rfl] at key
  have ln := sE_len w (by rw [szl]; omega)
  have n1 : ¬ ((w.length : Int) < 1) := by omega
  have n8 : ¬ ((8 : Int) < (w.length : Int)) := by omega
  have l1 : l_is_name_1.f [some (sE w), none] = some (.nx [some (sE w), none]) := by
    simp only [l_is_name_1]
    simp [txtF_sE, key]
  generalize sE w = W at *
  simp [pf_is_name, runD_eq, B_is_name, ln, n1, n8, l1]
theorem mem_jn {S : List Nat} {c : Nat} : ∀ {ws : List (List Nat)}, c ∈ jn S ws → c ∈ S ∨ ∃ w ∈ ws, c ∈ w
  | [], h => by cases h
  | w :: ws, h => by
    rw [jn_cons] at h
    rcases List.mem_append.mp h with h | h
    · exact .inr ⟨w, List.mem_cons_self, h⟩
    · obtain ⟨u, hu, hc⟩ := List.mem_flatMap.mp h
      rcases List.mem_append.mp hc with hc | hc
      · exact .inl hc
      · exact .inr ⟨u, List.mem_cons_of_mem _ hu, hc⟩
theorem Tx.nmIs {ws ps : List (List Nat)} (h : Tx ws ps) {i : Nat} (hi : i < ps.length) : IsN (nmAt ws i) := h.nm.is _ (nm_mem (by rw [h.nm.len]; exact hi))
theorem Tx.rowIs {ws ps : List (List Nat)} (h : Tx ws ps) {i : Nat} (hi : i < ps.length) : ∀ w ∈ rowW ws ps i, IsN w := by
  intro w hw
  unfold rowW at hw
  rcases List.mem_cons.mp hw with rfl | hw
  · exact h.nmIs hi
  · obtain ⟨f, hf, rfl⟩ := List.mem_map.mp hw
    exact h.nmIs (h.pl i f hf)
theorem Tx.rowChr {ws ps : List (List Nat)} (h : Tx ws ps) {i : Nat} (hi : i < ps.length) : ∀ c ∈ rowT ws ps i, c = 32 ∨ (97 ≤ c ∧ c ≤ 122) := by
  intro c hc
  rcases mem_jn hc with hc | ⟨w, hw, hc⟩
  · exact .inl (List.mem_singleton.mp hc)
  · exact .inr ((h.rowIs hi w hw).2.2 c hc)
theorem Tx.chr {ws ps : List (List Nat)} (h : Tx ws ps) : ∀ c ∈ textT ws ps, c < 256 := by
  intro c hc
  rcases mem_jn hc with hc | ⟨w, hw, hc⟩
  · simp at hc; omega
  · obtain ⟨i, hi, rfl⟩ := List.mem_map.mp hw
    have := h.rowChr (List.mem_range.mp hi) c hc
    omega
theorem eqF_sE {a b : List Nat} (ha : ∀ c ∈ a, c < 256) (hb : ∀ c ∈ b, c < 256) (n : Bool) : eqF n (sE a) (sE b) = some (.ok (.bl (if n then !decide (a = b) else decide (a = b)))) := by
  have sh : ∀ {w : List Nat}, (∀ c ∈ w, c < 256) → SeqAt.shaped (.str (mkS w)) = true := by
    intro w hw
    unfold SeqAt.shaped
    have : (PyData.str (mkS w)).canLay0 = true := by
      show PyData.strOk (mkS w) = true
      show (mkS w).cps.all (fun x => decide (x < 0x110000)) = true
      rw [← Array.all_toList]
      exact List.all_eq_true.mpr fun c hc => decide_eq_true (by have := hw c hc; omega)
    rw [this]; rfl
  have ee : PyData.eqv (.str (mkS a)) (.str (mkS b)) = decide (a = b) := by
    show (mkS a == mkS b) = _
    by_cases h : a = b
    · simp [h]
    · have : ¬ mkS a = mkS b := fun z => h (mkS_inj.mp z)
      simp [h, this]
  show (if SeqAt.shaped (.str (mkS a)) && SeqAt.shaped (.str (mkS b)) then some (DL.R.ok (D.bl (if n then !PyData.eqv (.str (mkS a)) (.str (mkS b)) else PyData.eqv (.str (mkS a)) (.str (mkS b))))) else none) = _
  rw [sh ha, sh hb, ee]; rfl
/-! ### names, rows -/
def isNb (w : List Nat) : Bool := decide (1 ≤ w.length) && (decide (w.length ≤ 8) && w.all (fun c => decide (c ∈ ABC)))
theorem F_name2 (w : List Nat) (hz : w.length ≤ sizeLine) : pf_is_name.F [sE w] = some (.ok (.bl (isNb w))) ∧ pf__law_name_is.F [sE w] = some (.ok (.bl (isNb w))) := by
  have k1 := forD_check (bind := (XG.n 1).f) (l := [1]) (body := b_is_name_1.f) (env := [some (sE w), none]) (fun c => sE [c]) (fun c => decide (c ∈ ABC)) w (by
    intro c _
    refine ⟨_, rfl, [some (sE w), some (sE [c])], rfl, ?_⟩
    have := sgnF_one true c ABC
    by_cases q : c ∈ ABC <;> simp [b_is_name_1, abc_sE, this, q])
  have k2 := forD_check (bind := (XG.n 1).f) (l := [1]) (body := b__law_name_is_1.f) (env := [some (sE w), none]) (fun c => sE [c]) (fun c => decide (c ∈ ABC)) w (by
    intro c _
    refine ⟨_, rfl, [some (sE w), some (sE [c])], rfl, ?_⟩
    have := sgnF_one true c ABC
    by_cases q : c ∈ ABC <;> simp [b__law_name_is_1, abc_sE, this, q])
  have ln := sE_len w hz
  have l1 : l_is_name_1.f [some (sE w), none] = if w.all (fun c => decide (c ∈ ABC)) = true then some (.nx [some (sE w), none]) else some (.rt (.bl false)) := by
    simp only [l_is_name_1]
    simp only [for_f, txt_f, var_f, eget_zero, bI_ok, txtF_sE, bSI_ok]
    exact k1
  have l2 : l__law_name_is_1.f [some (sE w), none] = if w.all (fun c => decide (c ∈ ABC)) = true then some (.nx [some (sE w), none]) else some (.rt (.bl false)) := by
    simp only [l__law_name_is_1]
    simp only [for_f, txt_f, var_f, eget_zero, bI_ok, txtF_sE, bSI_ok]
    exact k2
  unfold isNb
  generalize w.all (fun c => decide (c ∈ ABC)) = g at *
  generalize sE w = W at *
  by_cases h1 : w.length < 1
  · have n1 : (w.length : Int) < 1 := by omega
    have n1' : ¬ 1 ≤ w.length := by omega
    constructor
    · simp [pf_is_name, runD_eq, B_is_name, ln, n1, n1']
    · simp [pf__law_name_is, runD_eq, B__law_name_is, ln, n1, n1']
  · have n1 : ¬ ((w.length : Int) < 1) := by omega
    have n1' : 1 ≤ w.length := by omega
    by_cases h8 : 8 < w.length
    · have n8 : (8 : Int) < (w.length : Int) := by omega
      have n8' : ¬ w.length ≤ 8 := by omega
      constructor
      · simp [pf_is_name, runD_eq, B_is_name, ln, n1, n1', n8, n8', h8]
      · simp [pf__law_name_is, runD_eq, B__law_name_is, ln, n1, n1', n8, n8', h8]
    · have n8 : ¬ ((8 : Int) < (w.length : Int)) := by omega
      have n8' : w.length ≤ 8 := by omega
      constructor
      · cases g <;> simp [pf_is_name, runD_eq, B_is_name, ln, n1, n1', n8, n8', h8, l1]
      · cases g <;> simp [pf__law_name_is, runD_eq, B__law_name_is, ln, n1, n1', n8, n8', h8, l2]
/-- the rows that a text tells -/
def rowsW (w : List Nat) : List (List (List Nat)) := if w = [] then [] else (splitW [59, 32] w).map (splitW [32])
def rowE (r : List (List Nat)) : D := .lst (r.map sE)
def allN (rs : List (List (List Nat))) : Bool := rs.all fun r => r.all isNb
/-- a text that may be cut -/
structure Cut (w : List Nat) : Prop where
  low : Low w
  le : w.length ≤ 10000000
theorem Cut.part {w p S : List Nat} (h : Cut w) (hp : p ∈ splitW S w) : Cut p := ⟨fun c hc => h.low c (splitW_mem hp hc), Nat.le_trans (splitW_le hp) h.le⟩
theorem Cut.z {w : List Nat} (h : Cut w) : w.length + 2 ≤ sizeLine := by have := h.le; rw [szl]; omega
theorem rowsW_len {w : List Nat} (h : Cut w) : (rowsW w).length ≤ 10000001 := by
  have h' := h.le
  unfold rowsW
  split
  · simp
  · rw [List.length_map]
    have := splitW_len [59, 32] w
    omega
theorem rowsW_mem {w : List Nat} (h : Cut w) {r : List (List Nat)} (hr : r ∈ rowsW w) : r ≠ [] ∧ ∀ u ∈ r, Cut u := by
  unfold rowsW at hr
  split at hr
  · cases hr
  · obtain ⟨p, hp, rfl⟩ := List.mem_map.mp hr
    exact ⟨splitW_ne _ _, fun u hu => (h.part hp).part hu⟩
theorem spl_blk {w : List Nat} (h : Cut w) : splitF (sE w) (.str " ") = some (.ok (rowE (splitW [32] w))) := by rw [blk_sE]; exact splitF_gen (by simp) (by simp) h.z
theorem spl_sem {w : List Nat} (h : Cut w) : splitF (sE w) (.str "; ") = some (.ok (.lst ((splitW [59, 32] w).map sE))) := by rw [sem_sE]; exact splitF_gen (by simp) (by simp) h.z
theorem seqF_lst (b : Bool) (xs : List D) (h : b = false ∨ immL xs = true) : seqF b (.lst xs) = some (.ok xs) := by
  show (if !b || immL xs then some (DL.R.ok xs) else none) = _
  rcases h with h | h <;> simp [h]
def isEx (c : Nat) (pl : D) (o : Out) : Prop := ∃ e, o = .ex c pl e
theorem isEx_end {c : Nat} {pl : D} : ∀ o, isEx c pl o → Ender o := fun o ⟨e, h⟩ => by rw [h]; trivial
theorem F_rows_of {w : List Nat} (h : Cut w) : (allN (rowsW w) = true ∧ pf_rows_of.F [sE w] = some (.ok (.lst ((rowsW w).map rowE)))) ∨ (allN (rowsW w) = false ∧ pf_rows_of.F [sE w] = some (.ex 0 .non)) := by
  have e0 : eqF false (sE w) (.str "") = some (.ok (.bl (decide (w = [])))) := by
    have := eqF_sE (a := w) (b := []) h.low (fun c hc => by cases hc) false
    rw [sE_nil] at this
    simpa using this
  have isx : isiD .str (sE w) = some true := rfl
  have z1 : isStr1 (sE w) = true := rfl
  by_cases hw : w = []
  · refine .inl ⟨by rw [hw]; rfl, ?_⟩
    have er : rowsW w = [] := by rw [hw]; rfl
    rw [er]
    generalize sE w = W at *
    simp [hw] at e0
    simp [pf_rows_of, runD_eq, B_rows_of, e0, isx]
  · have er : rowsW w = (splitW [59, 32] w).map (splitW [32]) := if_neg hw
    have hp : ∀ p ∈ splitW [59, 32] w, Cut p := fun p hp => h.part hp
    have hl := splitW_len [59, 32] w
    have hle := h.le
    have sp := spl_sem h
    have key := forD_out (α := List Nat) (β := List (List (List Nat))) (bind := (XG.n 2).f) (body := b_rows_of_2.f) (l := [2, 3, 4]) (fun acc => [some (sE w), some (.lst (acc.map rowE)), none, none, none]) sE
      (fun acc p => if (fun p => (splitW [32] p).all isNb) p = true then some (acc ++ [(fun p => splitW [32] p) p]) else none) (isEx 0 .non) isEx_end (fun xs acc => (∀ p ∈ xs, Cut p) ∧ acc.length + xs.length ≤ 10000001) (splitW [59, 32] w) [] ⟨hp, by simp; omega⟩ (by
        intro p xs acc ⟨hc, hn⟩
        rw [List.length_cons] at hn
        have hcp := hc p List.mem_cons_self
        have sq := spl_blk hcp
        have zp : isStr1 (sE p) = true := rfl
        have im : immL ((splitW [32] p).map sE) = true := immL_strs _
        have hu : ∀ u ∈ splitW [32] p, u.length ≤ sizeLine := fun u hu => by have := (hcp.part hu).z; omega
        have k2 := forD_out (α := List Nat) (β := Unit) (bind := (XG.n 4).f) (body := b_rows_of_1.f) (l := [4]) (fun _ => [some (sE w), some (.lst (acc.map rowE)), some (sE p), some (rowE (splitW [32] p)), none]) sE
          (fun _ u => if isNb u = true then some () else none) (isEx 0 .non) isEx_end (fun us _ => ∀ u ∈ us, u.length ≤ sizeLine) (splitW [32] p) () hu (by
            intro u us _ hus
            have fn := (F_name2 u (hus u List.mem_cons_self)).1
            refine ⟨_, rfl, ?_⟩
            cases hq : isNb u with
            | true =>
              rw [hq] at fn
              exact .inl ⟨(), rfl, fun x hx => hus x (List.mem_cons_of_mem _ hx), [some (sE w), some (.lst (acc.map rowE)), some (sE p), some (rowE (splitW [32] p)), some (sE u)], .inl (by simp [b_rows_of_1, fn]), rfl⟩
            | false =>
              rw [hq] at fn
              exact .inr ⟨rfl, _, by
                show b_rows_of_1.f [some (sE w), some (.lst (acc.map rowE)), some (sE p), some (rowE (splitW [32] p)), some (sE u)] = some (.ex 0 .non [some (sE w), some (.lst (acc.map rowE)), some (sE p), some (rowE (splitW [32] p)), some (sE u)])
                simp [b_rows_of_1, fn], ⟨_, rfl⟩⟩)
        have fold : foldO (fun (_ : Unit) u => if isNb u = true then some () else none) () (splitW [32] p) = if (splitW [32] p).all isNb = true then some () else none := by
          generalize splitW [32] p = us
          induction us with
          | nil => rfl
          | cons u us ih =>
            rw [foldO, List.all_cons]
            cases isNb u with
            | true => rw [if_pos rfl, Option.bind_some, ih, Bool.true_and]
            | false => simp
        rw [fold] at k2
        refine ⟨_, rfl, ?_⟩
        have sz : (acc.map rowE).length < sizeLine := by rw [List.length_map, szl]; omega
        rcases k2 with ⟨s', hs', _, k2⟩ | ⟨hs', o, k2, e2, rfl⟩
        · have hall : (splitW [32] p).all isNb = true := by
            cases q : (splitW [32] p).all isNb with
            | true => rfl
            | false => rw [q] at hs'; cases hs'
          refine .inl ⟨acc ++ [splitW [32] p], by simp only [hall]; rfl, ⟨fun x hx => hc x (List.mem_cons_of_mem _ hx), by rw [List.length_append]; simp; omega⟩, [some (sE w), some (.lst ((acc ++ [splitW [32] p]).map rowE)), some (sE p), some (rowE (splitW [32] p)), none], .inl ?_, rfl⟩
          have l1 : l_rows_of_1.f [some (sE w), some (.lst (acc.map rowE)), some (sE p), some (rowE (splitW [32] p)), none] = some (.nx [some (sE w), some (.lst (acc.map rowE)), some (sE p), some (rowE (splitW [32] p)), none]) := by
            simp only [l_rows_of_1]
            exact forkp_lst (en := false) (i := 3) (g := .n 4) (body := b_rows_of_1) (l := [4]) (ds := (splitW [32] p).map sE) rfl im k2
          rw [List.map_append, List.map_cons, List.map_nil]
          generalize rowE (splitW [32] p) = RD at *
          generalize sE p = RT at *
          generalize sE w = TT at *
          generalize acc.map rowE = A at *
          simp only [b_rows_of_2]
          simp [zp, sq, l1, sz]
        · have hall : (splitW [32] p).all isNb = false := by
            cases q : (splitW [32] p).all isNb with
            | false => rfl
            | true => rw [q] at hs'; cases hs'
          refine .inr ⟨by simp only [hall]; rfl, _, ?_, ⟨e2, rfl⟩⟩
          have l1 : l_rows_of_1.f [some (sE w), some (.lst (acc.map rowE)), some (sE p), some (rowE (splitW [32] p)), none] = some (.ex 0 .non e2) := by
            simp only [l_rows_of_1]
            rw [forkp_f]
            show (if immL ((splitW [32] p).map sE) = true then _ else none) = _
            rw [if_pos im]
            have : forD (XG.n 4).f b_rows_of_1.f [4] (itemsK false ((splitW [32] p).map sE)) [some (sE w), some (.lst (acc.map rowE)), some (sE p), some (rowE (splitW [32] p)), none] = some (.ex 0 .non e2) := k2
            rw [this]; rfl
          generalize rowE (splitW [32] p) = RD at *
          generalize sE p = RT at *
          generalize sE w = TT at *
          generalize acc.map rowE = A at *
          show b_rows_of_2.f [some TT, some (.lst A), some RT, none, none] = _
          simp only [b_rows_of_2]
          simp [zp, sq, l1])
    rw [foldO_push] at key
    have eall : allN (rowsW w) = (splitW [59, 32] w).all fun p => (splitW [32] p).all isNb := by
      unfold allN
      rw [er, List.all_map]; rfl
    rw [eall, er]
    have e0' : eqF false (sE w) (.str "") = some (.ok (.bl false)) := by rw [e0]; simp [hw]
    rcases key with ⟨s', hs', _, key⟩ | ⟨hs', o, key, e2, rfl⟩
    · cases hq : (splitW [59, 32] w).all fun p => (splitW [32] p).all isNb with
      | false => rw [hq] at hs'; cases hs'
      | true =>
        rw [hq] at hs'
        have hs' := Option.some.inj hs'
        subst hs'
        refine .inl ⟨rfl, ?_⟩
        have l2 : l_rows_of_2.f [some (sE w), some (.lst []), none, none, none] = some (.nx [some (sE w), some (.lst (((splitW [59, 32] w).map (splitW [32])).map rowE)), none, none, none]) := by
          simp only [l_rows_of_2, for_f, iseq_f, splitT_f, var_f, eget_zero, b1_ok, z1, if_true, kS_f, sp, bI_ok, seqF_lst false _ (.inl rfl), bSI_ok]
          exact key
        generalize sE w = TT at *
        generalize ((splitW [59, 32] w).map (splitW [32])).map rowE = RR at *
        simp [pf_rows_of, runD_eq, B_rows_of, e0', isx, l2]
    · cases hq : (splitW [59, 32] w).all fun p => (splitW [32] p).all isNb with
      | true => rw [hq] at hs'; cases hs'
      | false =>
        refine .inr ⟨rfl, ?_⟩
        have l2 : l_rows_of_2.f [some (sE w), some (.lst []), none, none, none] = some (.ex 0 .non e2) := by
          simp only [l_rows_of_2, for_f, iseq_f, splitT_f, var_f, eget_zero, b1_ok, z1, if_true, kS_f, sp, bI_ok, seqF_lst false _ (.inl rfl), bSI_ok]
          exact key
        generalize sE w = TT at *
        simp [pf_rows_of, runD_eq, B_rows_of, e0', isx, l2]
/-! ### names and pieces of rows -/
def ixOf (nm : List (List Nat)) (w : List Nat) : Nat := (nm.findIdx? fun z => decide (z = w)).getD 0
theorem find_some : ∀ (nm : List (List Nat)) (w : List Nat), (nm.findIdx? fun z => decide (z = w)) = if w ∈ nm then some (ixOf nm w) else none := by
  intro nm w
  unfold ixOf
  have h := List.findIdx?_isSome (xs := nm) (p := fun z => decide (z = w))
  have e : nm.any (fun z => decide (z = w)) = decide (w ∈ nm) := by
    apply Bool.eq_iff_iff.mpr
    rw [List.any_eq_true, decide_eq_true_eq]
    constructor
    · rintro ⟨z, hz, e⟩
      rw [← of_decide_eq_true e]; exact hz
    · intro hw
      exact ⟨w, hw, by simp⟩
  rw [e] at h
  by_cases c : w ∈ nm
  · rw [if_pos c]
    cases q : nm.findIdx? fun z => decide (z = w) with
    | none => rw [q] at h; simp [c] at h
    | some k => rfl
  · rw [if_neg c]
    cases q : nm.findIdx? fun z => decide (z = w) with
    | none => rfl
    | some k => rw [q] at h; simp [c] at h
def kz (nm : List (List Nat)) : List (List Nat × Nat) := nm.zipIdx
theorem wFind_kz (w : List Nat) : ∀ (nm : List (List Nat)) (k : Nat), wFind (nm.zipIdx k) w = (nm.findIdx? fun z => decide (z = w)).map (· + k)
  | [], k => rfl
  | z :: nm, k => by
    rw [List.zipIdx_cons]
    have ih := wFind_kz w nm (k + 1)
    unfold wFind at ih ⊢
    rw [List.find?_cons, List.findIdx?_cons]
    by_cases h : z = w
    · simp [h]
    · have hd : decide (z = w) = false := decide_eq_false h
      simp only [hd]
      rw [ih]
      cases nm.findIdx? fun z => decide (z = w) with
      | none => rfl
      | some j => simp; omega
theorem wF (nm : List (List Nat)) (w : List Nat) : wFind (kz nm) w = if w ∈ nm then some (ixOf nm w) else none := by
  have := wFind_kz w nm 0
  unfold kz
  rw [this, find_some]
  by_cases c : w ∈ nm
  · rw [if_pos c]; rfl
  · rw [if_neg c]; rfl
theorem kz_snoc (nm : List (List Nat)) (w : List Nat) : kz (nm ++ [w]) = kz nm ++ [(w, nm.length)] := by
  unfold kz
  rw [List.zipIdx_append]; simp
def stepF (nm : List (List Nat)) (acc : List Nat) (w : List Nat) : Option (List Nat) := if (fun w => decide (w ∈ nm)) w = true then some (acc ++ [(fun w => ixOf nm w) w]) else none
abbrev St2 := List (List Nat) × List (List Nat)
def stepR (s : St2) (r : List (List Nat)) : Option St2 := match r with
  | [] => none
  | h :: t => if (!decide (h ∈ s.1) && t.all fun w => decide (w ∈ s.1)) = true then some (s.1 ++ [h], s.2 ++ [t.map (ixOf s.1)]) else none
theorem fold_faces (nm : List (List Nat)) (t : List (List Nat)) : foldO (stepF nm) [] t = if (t.all fun w => decide (w ∈ nm)) = true then some (t.map (ixOf nm)) else none := by
  have := foldO_push (fun w => decide (w ∈ nm)) (fun w => ixOf nm w) t []
  rw [List.nil_append] at this
  exact this
theorem row0 {h : List Nat} {t : List (List Nat)} : ixF (rowE (h :: t)) (.int 0) = some (.ok (sE h)) := ix_map sE (h :: t) 0 (by simp)
theorem row1 (h : List Nat) (t : List (List Nat)) : slF false (rowE (h :: t)) (some 1) none = some (.ok (.lst (t.map sE))) := lst_from sE (h :: t) 1
def rdS (T : D) (s : St2) : EnvD := [some T, some (wkE (kz s.1)), some (.lst (s.1.map sE)), some (.lst (s.2.map pieceE)), none, none, none]
theorem read_row (T : D) (s : St2) (r : List (List Nat)) (hne : r ≠ []) (hr : r.length ≤ 10000001) (h1 : s.1.length ≤ 10000001) (h2 : s.2.length ≤ 10000001) :
    (∃ s', stepR s r = some s' ∧ ∃ e2, b_read_2.f [some T, some (wkE (kz s.1)), some (.lst (s.1.map sE)), some (.lst (s.2.map pieceE)), some (rowE r), none, none] = some (.nx e2) ∧ killE [4, 5, 6] e2 = rdS T s') ∨
    (stepR s r = none ∧ ∃ e2, b_read_2.f [some T, some (wkE (kz s.1)), some (.lst (s.1.map sE)), some (.lst (s.2.map pieceE)), some (rowE r), none, none] = some (.ex 3 .non e2)) := by
  obtain ⟨nm, ps⟩ := s
  cases r with
  | nil => exact absurd rfl hne
  | cons h t =>
  dsimp only at h1 h2 ⊢
  rw [List.length_cons] at hr
  have i0 := row0 (h := h) (t := t)
  have i1 := row1 h t
  have dn := dinF_wk false h (kz nm)
  rw [wF] at dn
  have im := immD_sE h
  by_cases hh : h ∈ nm
  · rw [if_pos hh] at dn
    refine .inr ⟨by simp [stepR, hh], [some T, some (wkE (kz nm)), some (.lst (nm.map sE)), some (.lst (ps.map pieceE)), some (rowE (h :: t)), none, none], ?_⟩
    generalize rowE (h :: t) = RD at *
    generalize sE h = H at *
    simp only [b_read_2]
    simp [i0, dn]
  · rw [if_neg hh] at dn
    have key := forD_out (α := List Nat) (β := List Nat) (bind := (XG.n 6).f) (body := b_read_1.f) (l := [6]) (fun acc => [some T, some (wkE (kz nm)), some (.lst (nm.map sE)), some (.lst (ps.map pieceE)), some (rowE (h :: t)), some (.lst (acc.map natE)), none]) sE
      (stepF nm) (isEx 3 .non) isEx_end (fun xs acc => acc.length + xs.length ≤ 10000001) t [] (by simp; omega) (by
        intro w ws acc hn
        rw [List.length_cons] at hn
        refine ⟨_, rfl, ?_⟩
        have d1 := dinF_wk true w (kz nm)
        have sz : (acc.map natE).length < sizeLine := by rw [List.length_map, szl]; omega
        by_cases hw : w ∈ nm
        · have f1 : wFind (kz nm) w = some (ixOf nm w) := by rw [wF, if_pos hw]
          rw [f1] at d1
          have d2 := dixF_wk f1
          refine .inl ⟨acc ++ [ixOf nm w], by simp [stepF, hw], by rw [List.length_append]; simp; omega, [some T, some (wkE (kz nm)), some (.lst (nm.map sE)), some (.lst (ps.map pieceE)), some (rowE (h :: t)), some (.lst ((acc ++ [ixOf nm w]).map natE)), some (sE w)], .inl ?_, rfl⟩
          rw [List.map_append, List.map_cons, List.map_nil]
          generalize rowE (h :: t) = RD at *
          generalize sE w = W at *
          generalize wkE (kz nm) = KV at *
          generalize acc.map natE = A at *
          simp [b_read_1, d1, d2, natE_def, sz]
        · rw [wF, if_neg hw] at d1
          refine .inr ⟨by simp [stepF, hw], _, ?_, ⟨[some T, some (wkE (kz nm)), some (.lst (nm.map sE)), some (.lst (ps.map pieceE)), some (rowE (h :: t)), some (.lst (acc.map natE)), some (sE w)], rfl⟩⟩
          show b_read_1.f [some T, some (wkE (kz nm)), some (.lst (nm.map sE)), some (.lst (ps.map pieceE)), some (rowE (h :: t)), some (.lst (acc.map natE)), some (sE w)] = _
          generalize rowE (h :: t) = RD at *
          generalize sE w = W at *
          generalize wkE (kz nm) = KV at *
          simp [b_read_1, d1])
    rw [fold_faces] at key
    have lf : ∀ o, forD (XG.n 6).f b_read_1.f [6] (t.map sE) [some T, some (wkE (kz nm)), some (.lst (nm.map sE)), some (.lst (ps.map pieceE)), some (rowE (h :: t)), some (.lst []), none] = o → l_read_1.f [some T, some (wkE (kz nm)), some (.lst (nm.map sE)), some (.lst (ps.map pieceE)), some (rowE (h :: t)), some (.lst []), none] = o := by
      intro o ho
      simp only [l_read_1, for_f, iseq_f, sl_f, var_f, eget_succ, eget_zero, oe_f, kI_f, partF_ok, ono_f, b3_ok, i1, bI_ok, seqF_lst false _ (.inl rfl), bSI_ok]
      exact ho
    rcases key with ⟨fs, hfs, hfl, key⟩ | ⟨hfs, o, key, e2, rfl⟩
    · cases hq : t.all fun w => decide (w ∈ nm) with
      | false => rw [hq] at hfs; cases hfs
      | true =>
        rw [hq, if_pos rfl] at hfs
        have hfs := Option.some.inj hfs
        subst hfs
        have l1 := lf _ key
        refine .inl ⟨(nm ++ [h], ps ++ [t.map (ixOf nm)]), by simp only [stepR]; rw [hq]; simp [hh], [some T, some (wkE (kz (nm ++ [h]))), some (.lst ((nm ++ [h]).map sE)), some (.lst ((ps ++ [t.map (ixOf nm)]).map pieceE)), some (rowE (h :: t)), some (.lst ((t.map (ixOf nm)).map natE)), none], ?_, rfl⟩
        have ln : lenF [.lst (nm.map sE)] = some (natE nm.length) := len_map sE nm
        have pt := putF_wk (w := h) (ks := kz nm) nm.length (by rw [wF, if_neg hh]) (by unfold kz; rw [List.length_zipIdx, szl]; omega)
        rw [← kz_snoc] at pt
        have s1 : (nm.map sE).length < sizeLine := by rw [List.length_map, szl]; omega
        have s2 : (ps.map pieceE).length < sizeLine := by rw [List.length_map, szl]; omega
        have r1 : (nm ++ [h]).map sE = nm.map sE ++ [sE h] := by rw [List.map_append]; rfl
        have r2 : (ps ++ [t.map (ixOf nm)]).map pieceE = ps.map pieceE ++ [.tup ((t.map (ixOf nm)).map natE)] := by rw [List.map_append]; rfl
        rw [r1, r2]
        generalize (t.map (ixOf nm)).map natE = FL at *
        generalize rowE (h :: t) = RD at *
        generalize sE h = H at *
        generalize wkE (kz nm) = KV at *
        generalize wkE (kz (nm ++ [h])) = KV1 at *
        generalize nm.map sE = NL at *
        generalize ps.map pieceE = PL at *
        simp only [b_read_2]
        rw [natE_def] at ln pt
        simp [i0, dn, l1, ln, pt, s1, s2, im]
    · cases hq : t.all fun w => decide (w ∈ nm) with
      | true => rw [hq] at hfs; cases hfs
      | false =>
        have l1 := lf _ key
        refine .inr ⟨by simp only [stepR]; rw [hq]; simp, e2, ?_⟩
        generalize rowE (h :: t) = RD at *
        generalize sE h = H at *
        generalize wkE (kz nm) = KV at *
        generalize nm.map sE = NL at *
        generalize ps.map pieceE = PL at *
        simp only [b_read_2]
        simp [i0, dn, l1]
/-- names and pieces, where each face's name stands ahead -/
def told (rs : List (List (List Nat))) : Option St2 := foldO stepR ([], []) rs
theorem stepR_len {s s' : St2} {r : List (List Nat)} (h : stepR s r = some s') : s'.1.length = s.1.length + 1 ∧ s'.2.length = s.2.length + 1 := by
  unfold stepR at h
  split at h
  · cases h
  · split at h
    · cases h; simp
    · cases h
theorem rows_le {w : List Nat} (h : Cut w) : ∀ r ∈ rowsW w, r ≠ [] ∧ r.length ≤ 10000001 := by
  intro r hr
  refine ⟨(rowsW_mem h hr).1, ?_⟩
  have h' := h.le
  unfold rowsW at hr
  split at hr
  · cases hr
  · obtain ⟨p, hp, rfl⟩ := List.mem_map.mp hr
    have := splitW_len [32] p
    have := splitW_le hp
    omega
theorem read_loop (T : D) {rs : List (List (List Nat))} (hn : rs.length ≤ 10000001) (hr : ∀ r ∈ rs, r ≠ [] ∧ r.length ≤ 10000001) :
    (∃ s, told rs = some s ∧ forD (XG.n 4).f b_read_2.f [4, 5, 6] (rs.map rowE) (rdS T ([], [])) = some (.nx (rdS T s))) ∨ (told rs = none ∧ ∃ e, forD (XG.n 4).f b_read_2.f [4, 5, 6] (rs.map rowE) (rdS T ([], [])) = some (.ex 3 .non e)) := by
  have key := forD_out (α := List (List Nat)) (β := St2) (bind := (XG.n 4).f) (body := b_read_2.f) (l := [4, 5, 6]) (rdS T) rowE stepR (isEx 3 .non) isEx_end (fun xs s => s.1.length + xs.length ≤ 10000001 ∧ s.2.length + xs.length ≤ 10000001 ∧ ∀ r ∈ xs, r ≠ [] ∧ r.length ≤ 10000001) rs ([], []) ⟨by simpa using hn, by simpa using hn, hr⟩ (by
    intro r xs s ⟨a, b, c⟩
    rw [List.length_cons] at a b
    obtain ⟨c1, c2⟩ := c r List.mem_cons_self
    refine ⟨_, rfl, ?_⟩
    rcases read_row T s r c1 c2 (by omega) (by omega) with ⟨s', h1, e2, h2, h3⟩ | ⟨h1, e2, h2⟩
    · obtain ⟨g1, g2⟩ := stepR_len h1
      exact .inl ⟨s', h1, ⟨by omega, by omega, fun x hx => c x (List.mem_cons_of_mem _ hx)⟩, e2, .inl h2, h3⟩
    · exact .inr ⟨h1, _, h2, ⟨e2, rfl⟩⟩)
  rcases key with ⟨s', h1, _, h2⟩ | ⟨h1, o, h2, e, rfl⟩
  · exact .inl ⟨s', h1, h2⟩
  · exact .inr ⟨h1, e, h2⟩
/-! ### what is due, what is told -/
def dueS (s : St2) : D := if s.2.length > 40 then .tup [.str "shape", .bl true] else match badAt [] (s.2.map pieceE) with
  | some n => .tup [.str "piece", .bl true, .int (n : Int)]
  | none => .tup [.str "good", shapeE s.2, .lst (s.1.map sE)]
def dueW (w : List Nat) : D := if allN (rowsW w) = true then match told (rowsW w) with
  | some s => dueS s
  | none => .tup [.str "name", .bl true] else .tup [.str "text", .bl true]
theorem bSI_ex (c : Nat) (p : D) (env : EnvD) (g : List D → Option Out) : bSI (some (.ex c p)) env g = some (.ex c p env) := rfl
theorem bI_ex (c : Nat) (p : D) (g : D → Option (DL.R (List D))) : bI (some (.ex c p)) g = some (.ex c p) := rfl
theorem bL_ex (c : Nat) (p : D) (g : List D → Option (DL.R D)) : bL (some (.ex c p)) g = some (.ex c p) := rfl
theorem bA_ex (c : Nat) (p : D) (r : Option (DL.R (List D))) : bA (some (.ex c p)) r = some (.ex c p) := rfl
theorem F_shape_of (ps : List (List Nat)) (hl : ps.length ≤ 10000001) : pf_shape_of.F [shapeE ps] = if ps.length > 40 then some (.ex 1 .non) else match badAt [] (ps.map pieceE) with
    | some n => some (.ex 2 (.ins 0 [("place", .int (n : Int))]))
    | none => some (.ok (shapeE ps)) := by
  have ln := shapeE_len ps
  have isx : isiD .list (shapeE ps) = some true := rfl
  by_cases h : ps.length > 40
  · have h' : (40 : Int) < ps.length := by omega
    rw [if_pos h]
    generalize shapeE ps = SH at *
    simp [pf_shape_of, runD_eq, B_shape_of, isx, ln, h']
  · have h' : ¬ (40 : Int) < ps.length := by omega
    have h'' : ¬ 40 < ps.length := h
    rw [if_neg h]
    have itm : ∀ d ∈ ps.map pieceE, Itm d := by
      intro d hd
      obtain ⟨p, _, rfl⟩ := List.mem_map.mp hd
      refine .tup _ fun d hd => ?_
      obtain ⟨q, _, rfl⟩ := List.mem_map.mp hd
      exact .int _
    have fb := F_first_bad itm (by rw [List.length_map]; omega)
    have fb : pf_first_bad.F [shapeE ps] = some (.ok (badD (badAt [] (ps.map pieceE)))) := fb
    have lo : listOfF true [shapeE ps] = some (.ok (shapeE ps)) := by
      have : immL (ps.map pieceE) = true := immL_map immD_pieceE ps
      unfold shapeE
      simp [listOfF, this]
    generalize shapeE ps = SH at *
    cases q : badAt [] (ps.map pieceE) with
    | some n => rw [q] at fb; simp [pf_shape_of, runD_eq, B_shape_of, isx, ln, h', h'', fb, badD, isN, fldF]
    | none => rw [q] at fb; simp [pf_shape_of, runD_eq, B_shape_of, isx, ln, h', h'', fb, badD, isN, lo]
def readR (w : List Nat) : Option (DL.R D) := if allN (rowsW w) = true then match told (rowsW w) with
  | some s => if s.2.length > 40 then some (.ex 1 .non) else match badAt [] (s.2.map pieceE) with
    | some n => some (.ex 2 (.ins 0 [("place", .int (n : Int))]))
    | none => some (.ok (.tup [shapeE s.2, .lst (s.1.map sE)]))
  | none => some (.ex 3 .non) else some (.ex 0 .non)
theorem told_len {rs : List (List (List Nat))} {s : St2} (h : told rs = some s) : s.2.length = rs.length ∧ s.1.length = rs.length := by
  have gen : ∀ (rs : List (List (List Nat))) (s0 s : St2), foldO stepR s0 rs = some s → s.2.length = s0.2.length + rs.length ∧ s.1.length = s0.1.length + rs.length := by
    intro rs
    induction rs with
    | nil => intro s0 s h; cases h; exact ⟨rfl, rfl⟩
    | cons r rs ih =>
      intro s0 s h
      rw [foldO] at h
      cases q : stepR s0 r with
      | none => rw [q] at h; cases h
      | some s1 =>
        rw [q] at h
        have := ih s1 s h
        have := stepR_len q
        rw [List.length_cons]; omega
  have := gen rs _ _ h
  simpa using this
theorem F_read {w : List Nat} (h : Cut w) : pf_read.F [sE w] = readR w := by
  have hn := rowsW_len h
  unfold readR
  have start : ∀ o, l_read_2.f (rdS (sE w) ([], [])) = o → pf_read.F [sE w] = finD (seqK o (XS.ret (.tup (.cons (.call pf_shape_of (.cons false (.var 3) .nil)) (.cons (.mv 2) .nil)))).f) := by
    intro o ho
    have e : l_read_2.f [some (sE w), some (.dct []), some (.lst []), some (.lst []), none, none, none] = o := ho
    generalize sE w = T at *
    simp [pf_read, runD_eq, B_read, e]
  have call : ∀ r, pf_rows_of.F [sE w] = r → (XE.call pf_rows_of (.cons false (.var 0) .nil)).f (rdS (sE w) ([], [])) = r := by
    intro r hr
    show bL (bA (eget (rdS (sE w) ([], [])) 0) (some (.ok []))) pf_rows_of.F = r
    exact hr
  rcases F_rows_of h with ⟨ha, hrow⟩ | ⟨ha, hrow⟩
  · rw [ha, if_pos rfl]
    have c := call _ hrow
    rcases read_loop (sE w) hn (rows_le h) with ⟨s, ht, lp⟩ | ⟨ht, e, lp⟩
    · rw [ht]
      have l2 : l_read_2.f (rdS (sE w) ([], [])) = some (.nx (rdS (sE w) s)) := by
        simp only [l_read_2, for_f, iseq_f, c, bI_ok, seqF_lst false _ (.inl rfl), bSI_ok]
        exact lp
      rw [start _ l2]
      obtain ⟨g1, g2⟩ := told_len ht
      have so := F_shape_of s.2 (by omega)
      have so : pf_shape_of.F [.lst (s.2.map pieceE)] = _ := so
      have s2 : 2 ≤ sizeLine := by rw [szl]; decide
      unfold rdS
      dsimp only
      split
      · next h40 => rw [if_pos h40] at so; simp [so, bA_ex, bL_ex]
      · next h40 =>
        rw [if_neg h40] at so
        cases q : badAt [] (s.2.map pieceE) with
        | some n => rw [q] at so; simp [so, bA_ex, bL_ex]
        | none => rw [q] at so; simp [so, s2]
    · rw [ht]
      have l2 : l_read_2.f (rdS (sE w) ([], [])) = some (.ex 3 .non e) := by
        simp only [l_read_2, for_f, iseq_f, c, bI_ok, seqF_lst false _ (.inl rfl), bSI_ok]
        exact lp
      rw [start _ l2]; rfl
  · rw [ha, if_neg Bool.false_ne_true]
    have c := call _ hrow
    have l2 : l_read_2.f (rdS (sE w) ([], [])) = some (.ex 0 .non (rdS (sE w) ([], []))) := by
      simp only [l_read_2, for_f, iseq_f, c, bI_ex, bSI_ex]
    rw [start _ l2]; rfl
theorem alone (n : Nat) (hn : n < 4) : r__law_alone n = .bl true := by
  have : ∀ n, n < 4 → (decide ((((((if (xIs (xDs.getD n "") "NoText") then 1 else 0) + (if (xIs (xDs.getD n "") "NoName") then 1 else 0)) + (if (xIs (xDs.getD n "") "NoShape") then 1 else 0)) + (if (xIs (xDs.getD n "") "NoPiece") then 1 else 0)) : Int) = 1) && ((xIs (xDs.getD n "") "HoleError") && (xIs (xDs.getD n "") "ValueError"))) = true := by decide +kernel
  unfold r__law_alone
  rw [this n hn]
def tail_told : XS := (.seq (.ite (.v (.isNo false (.var 2))) (.seq (.ite (.or (.not (.v (.isi .tuple (.var 1)))) (.v (.eq true (.bi BI.len (.cons (.var 1) .nil)) (.kI 2)))) (.ret (.tup (.cons (.kS "bad") .nil))) .skip)
  (.ret (.tup (.cons (.kS "good") (.take2 1 .nil))))) .skip)
  (.seq (.ite (.and (.v (.eq false (.ix (.var 2) (.kI 0)) (.kS "piece"))) (.not (.v (.call pf__law_whole (.cons false (.ix (.var 2) (.kI 2)) .nil))))) (.ret (.tup (.cons (.kS "bad") .nil))) .skip)
  (.ret (.mv 2))))
abbrev tryT : XS := (.trym xDs [("NoText", r__law_told_by_1), ("NoName", r__law_told_by_2), ("NoShape", r__law_told_by_3), ("NoPiece", r__law_told_by_4)] (.asg (.call pf_read (.cons false (.var 0) .nil)) (.n 1)) 3 2)
theorem told_start (T : D) (e : EnvD) (h : tryT.f [some T, some .non, some .non, none] = some (.nx e)) : pf__law_told_by.F [T] = finD (tail_told.f e) := by
  have e0 : pf__law_told_by.F [T] = finD (seqK (tryT.f [some T, some .non, some .non, none]) tail_told.f) := rfl
  rw [e0, h]; rfl
theorem told_ex {T : D} {n : Nat} {pl dv : D} {res : Res} (hr : pf_read.F [T] = some (.ex n pl)) (hn : n < 4) (hx : pickH (xDs.getD n "") [("NoText", r__law_told_by_1), ("NoName", r__law_told_by_2), ("NoShape", r__law_told_by_3), ("NoPiece", r__law_told_by_4)] = some res) (hv : res n pl = some dv) : pf__law_told_by.F [T] = finD (tail_told.f [some T, some .non, some dv, none]) := by
  refine told_start T _ ((trym_ex (n := n) (pl := pl) (dv := dv) (e1 := [some T, some .non, some .non, none]) (res := res) (by simp [hr]) (show n < xDs.length from hn) hx hv).trans rfl)
theorem eqp (s : Str) (h : s.cps.all (fun x => decide (x < 0x110000)) = true) : eqF false (.str s) (.str "piece") = some (.ok (.bl (s == "piece"))) := eqF_strs (a := s) (b := "piece") h (by decide +kernel) false
theorem F_told_by {w : List Nat} (h : Cut w) : pf__law_told_by.F [sE w] = some (.ok (dueW w)) := by
  have rd := F_read h
  have s1 : 1 ≤ sizeLine := by decide
  have s3 : 3 ≤ sizeLine := by decide
  have two : ∀ s : Str, (s.cps.all (fun x => decide (x < 0x110000)) = true) → (s == "piece") = false → finD (tail_told.f [some (sE w), some .non, some (.tup [.str s, .bl true]), none]) = some (.ok (.tup [.str s, .bl true])) := by
    intro s hs hp
    have e := eqp s hs
    rw [hp] at e
    have i0 : atI [D.str s, .bl true] 0 = some (.str s) := rfl
    simp [tail_told, isN, i0, e]
  unfold readR at rd
  unfold dueW
  split at rd
  · next ha =>
    rw [if_pos ha]
    split at rd
    · next s ht =>
      unfold dueS
      split at rd
      · next h40 =>
        rw [if_pos h40, told_ex rd (by decide) (res := r__law_told_by_3) rfl (by unfold r__law_told_by_3; rw [alone 1 (by decide)])]
        exact two "shape" (by decide +kernel) (by decide +kernel)
      · next h40 =>
        rw [if_neg h40]
        split at rd
        · next n hb =>
          rw [told_ex rd (by decide) (res := r__law_told_by_4) (dv := .tup [.str "piece", .bl true, .int (n : Int)]) rfl (by unfold r__law_told_by_4 fldR; rw [alone 2 (by decide)]; simp)]
          have e := eqp "piece" (by decide +kernel)
          have e2 : (("piece" : Str) == "piece") = true := by decide +kernel
          rw [e2] at e
          have i0 : atI [D.str "piece", .bl true, .int (n : Int)] 0 = some (.str "piece") := rfl
          have i2 : atI [D.str "piece", .bl true, .int (n : Int)] 2 = some (.int (n : Int)) := rfl
          simp [tail_told, isN, i0, i2, e, F_whole]
        · next hb =>
          have tr : tryT.f [some (sE w), some .non, some .non, none] = some (.nx [some (sE w), some (.tup [shapeE s.2, .lst (s.1.map sE)]), some .non, none]) := trym_nx (by simp [rd])
          rw [told_start _ _ tr]
          have tk := take2_f (i := 1) (as := .nil) (env := [some (sE w), some (.tup [shapeE s.2, .lst (s.1.map sE)]), some .non, none]) rfl
          have l2 : lenF [.tup [shapeE s.2, .lst (s.1.map sE)]] = some (.int 2) := rfl
          have ist : isiD .tuple (.tup [shapeE s.2, .lst (s.1.map sE)]) = some true := rfl
          rw [anil_f, bA_ok, bA_ok] at tk
          generalize (D.tup [shapeE s.2, .lst (s.1.map sE)]) = PR at *
          simp [tail_told, isN, ist, l2, tk, s3]
    · next ht =>
      rw [told_ex rd (by decide) (res := r__law_told_by_2) rfl (by unfold r__law_told_by_2; rw [alone 3 (by decide)])]
      exact two "name" (by decide +kernel) (by decide +kernel)
  · next ha =>
    rw [if_neg ha, told_ex rd (by decide) (res := r__law_told_by_1) rfl (by unfold r__law_told_by_1; rw [alone 0 (by decide)])]
    exact two "text" (by decide +kernel) (by decide +kernel)
/-! ### the law's own look -/
def isRt (x : D) (o : Out) : Prop := o = .rt x
theorem isRt_end {x : D} : ∀ o, isRt x o → Ender o := fun o h => by rw [h]; trivial
def txD : D := .tup [.str "text", .bl true]
def nmD : D := .tup [.str "name", .bl true]
theorem law_names (T : D) {rs : List (List (List Nat))} (hr : ∀ r ∈ rs, ∀ u ∈ r, u.length ≤ sizeLine) :
    l__law_due_of_2.f [some T, some (.lst (rs.map rowE)), none, none, none, none, none] = if allN rs = true then some (.nx [some T, some (.lst (rs.map rowE)), none, none, none, none, none]) else some (.rt txD) := by
  have key := forD_out (α := List (List Nat)) (β := Unit) (bind := (XG.n 2).f) (body := b__law_due_of_2.f) (l := [2, 3]) (fun _ => [some T, some (.lst (rs.map rowE)), none, none, none, none, none]) rowE
    (fun _ r => if r.all isNb = true then some () else none) (isRt txD) isRt_end (fun xs _ => ∀ r ∈ xs, ∀ u ∈ r, u.length ≤ sizeLine) rs () hr (by
      intro r xs _ hx
      have k2 := forD_out (α := List Nat) (β := Unit) (bind := (XG.n 3).f) (body := b__law_due_of_1.f) (l := [3]) (fun _ => [some T, some (.lst (rs.map rowE)), some (rowE r), none, none, none, none]) sE
        (fun _ u => if isNb u = true then some () else none) (isRt txD) isRt_end (fun us _ => ∀ u ∈ us, u.length ≤ sizeLine) r () (hx r List.mem_cons_self) (by
          intro u us _ hus
          have fn := (F_name2 u (hus u List.mem_cons_self)).2
          have s2 : 2 ≤ sizeLine := by decide
          refine ⟨_, rfl, ?_⟩
          cases hq : isNb u with
          | true =>
            rw [hq] at fn
            refine .inl ⟨(), rfl, fun x hx => hus x (List.mem_cons_of_mem _ hx), [some T, some (.lst (rs.map rowE)), some (rowE r), some (sE u), none, none, none], .inl ?_, rfl⟩
            show b__law_due_of_1.f [some T, some (.lst (rs.map rowE)), some (rowE r), some (sE u), none, none, none] = _
            simp [b__law_due_of_1, fn]
          | false =>
            rw [hq] at fn
            refine .inr ⟨rfl, _, ?_, rfl⟩
            show b__law_due_of_1.f [some T, some (.lst (rs.map rowE)), some (rowE r), some (sE u), none, none, none] = some (.rt txD)
            simp [b__law_due_of_1, fn, s2, txD])
      have fold : foldO (fun (_ : Unit) u => if isNb u = true then some () else none) () r = if r.all isNb = true then some () else none := by
        generalize r = us
        induction us with
        | nil => rfl
        | cons u us ih =>
          rw [foldO, List.all_cons]
          cases isNb u with
          | true => rw [if_pos rfl, Option.bind_some, ih, Bool.true_and]
          | false => simp
      rw [fold] at k2
      refine ⟨_, rfl, ?_⟩
      have lf : ∀ o, forD (XG.n 3).f b__law_due_of_1.f [3] (r.map sE) [some T, some (.lst (rs.map rowE)), some (rowE r), none, none, none, none] = o → b__law_due_of_2.f [some T, some (.lst (rs.map rowE)), some (rowE r), none, none, none, none] = o := by
        intro o ho
        simp only [b__law_due_of_2, l__law_due_of_1, for_f, iseq_f, var_f, eget_succ, eget_zero, bI_ok, rowE, seqF_lst false _ (.inl rfl), bSI_ok]
        exact ho
      rcases k2 with ⟨_, hs, _, k2⟩ | ⟨hs, o, k2, rfl⟩
      · cases hq : r.all isNb with
        | false => rw [hq] at hs; cases hs
        | true => exact .inl ⟨(), rfl, fun x hx' => hx x (List.mem_cons_of_mem _ hx'), _, .inl (lf _ k2), rfl⟩
      · cases hq : r.all isNb with
        | true => rw [hq] at hs; cases hs
        | false => exact .inr ⟨rfl, _, lf _ k2, rfl⟩)
  have fold : ∀ rs : List (List (List Nat)), foldO (fun (_ : Unit) (r : List (List Nat)) => if r.all isNb = true then some () else none) () rs = if allN rs = true then some () else none := by
    intro rs
    induction rs with
    | nil => rfl
    | cons u us ih =>
      unfold allN at ih ⊢
      rw [foldO, List.all_cons]
      cases u.all isNb with
      | true => rw [if_pos rfl, Option.bind_some, ih, Bool.true_and]
      | false => simp
  rw [fold] at key
  simp only [l__law_due_of_2, for_f, iseq_f, fz_f, eget_succ, eget_zero, bI_ok, seqF_lst false _ (.inl rfl), bSI_ok]
  rcases key with ⟨_, hs, _, k⟩ | ⟨hs, o, k, rfl⟩
  · cases hq : allN rs with
    | false => rw [hq] at hs; cases hs
    | true => rw [if_pos rfl]; exact k
  · cases hq : allN rs with
    | true => rw [hq] at hs; cases hs
    | false => rw [if_neg Bool.false_ne_true]; exact k
def duS (T R : D) (s : St2) : EnvD := [some T, some R, none, none, some (.lst (s.1.map sE)), some (.lst (s.2.map pieceE)), none]
theorem low_nm {nm : List (List Nat)} (h : ∀ w ∈ nm, Low w) {t : List (List Nat)} (ht : ∀ w ∈ t, Low w) : True := trivial
theorem due_row (T R : D) (s : St2) (r : List (List Nat)) (hne : r ≠ []) (hr : r.length ≤ 10000001) (h1 : s.1.length ≤ 10000001) (h2 : s.2.length ≤ 10000001) (lw : ∀ w ∈ s.1, Low w) (lr : ∀ w ∈ r, Low w) :
    (∃ s', stepR s r = some s' ∧ ∃ e2, b__law_due_of_4.f [some T, some R, some (rowE r), none, some (.lst (s.1.map sE)), some (.lst (s.2.map pieceE)), none] = some (.nx e2) ∧ killE [2, 3] e2 = duS T R s') ∨
    (stepR s r = none ∧ b__law_due_of_4.f [some T, some R, some (rowE r), none, some (.lst (s.1.map sE)), some (.lst (s.2.map pieceE)), none] = some (.rt nmD)) := by
  obtain ⟨nm, ps⟩ := s
  cases r with
  | nil => exact absurd rfl hne
  | cons h t =>
  dsimp only at h1 h2 lw ⊢
  rw [List.length_cons] at hr
  have i0 := row0 (h := h) (t := t)
  have i1 := row1 h t
  have s2 : 2 ≤ sizeLine := by decide
  have key := forD_out (α := List Nat) (β := Unit) (bind := (XG.n 3).f) (body := b__law_due_of_3.f) (l := [3]) (fun _ => [some T, some R, some (rowE (h :: t)), none, some (.lst (nm.map sE)), some (.lst (ps.map pieceE)), none]) sE
    (fun _ w => if (decide (w ∈ nm)) = true then some () else none) (isRt nmD) isRt_end (fun _ _ => True) t () trivial (by
      intro w ws _ _
      refine ⟨_, rfl, ?_⟩
      have iw := inAF_strs true w nm
      by_cases hw : w ∈ nm
      · refine .inl ⟨(), by simp [hw], trivial, [some T, some R, some (rowE (h :: t)), some (sE w), some (.lst (nm.map sE)), some (.lst (ps.map pieceE)), none], .inl ?_, rfl⟩
        show b__law_due_of_3.f [some T, some R, some (rowE (h :: t)), some (sE w), some (.lst (nm.map sE)), some (.lst (ps.map pieceE)), none] = _
        generalize sE w = W at *
        generalize nm.map sE = NL at *
        simp [b__law_due_of_3, iw, hw]
      · refine .inr ⟨by simp [hw], _, ?_, rfl⟩
        show b__law_due_of_3.f [some T, some R, some (rowE (h :: t)), some (sE w), some (.lst (nm.map sE)), some (.lst (ps.map pieceE)), none] = some (.rt nmD)
        generalize sE w = W at *
        generalize nm.map sE = NL at *
        simp [b__law_due_of_3, iw, hw, s2, nmD])
  have fold : ∀ t : List (List Nat), foldO (fun (_ : Unit) w => if (decide (w ∈ nm)) = true then some () else none) () t = if (t.all fun w => decide (w ∈ nm)) = true then some () else none := by
    intro t
    induction t with
    | nil => rfl
    | cons u us ih =>
      rw [foldO, List.all_cons]
      cases decide (u ∈ nm) with
      | true => rw [if_pos rfl, Option.bind_some, ih, Bool.true_and]
      | false => simp
  rw [fold] at key
  have lf : ∀ o, forD (XG.n 3).f b__law_due_of_3.f [3] (t.map sE) [some T, some R, some (rowE (h :: t)), none, some (.lst (nm.map sE)), some (.lst (ps.map pieceE)), none] = o → l__law_due_of_3.f [some T, some R, some (rowE (h :: t)), none, some (.lst (nm.map sE)), some (.lst (ps.map pieceE)), none] = o := by
    intro o ho
    simp only [l__law_due_of_3, for_f, iseq_f, sl_f, var_f, eget_succ, eget_zero, oe_f, kI_f, partF_ok, ono_f, b3_ok, i1, bI_ok, seqF_lst false _ (.inl rfl), bSI_ok]
    exact ho
  rcases key with ⟨_, hfs, _, key⟩ | ⟨hfs, o, key, rfl⟩
  · cases hq : t.all fun w => decide (w ∈ nm) with
    | false => rw [hq] at hfs; cases hfs
    | true =>
      have l1 := lf _ key
      have iw := inAF_strs false h nm
      by_cases hh : h ∈ nm
      · refine .inr ⟨by simp [stepR, hh], ?_⟩
        generalize rowE (h :: t) = RD at *
        generalize sE h = H at *
        generalize nm.map sE = NL at *
        simp only [b__law_due_of_4]
        simp [l1, i0, iw, hh, s2, nmD]
      · have allm : ∀ w ∈ t, w ∈ nm := fun w hw => of_decide_eq_true (List.all_eq_true.mp hq w hw)
        refine .inl ⟨(nm ++ [h], ps ++ [t.map (ixOf nm)]), by simp only [stepR]; rw [hq]; simp [hh], [some T, some R, some (rowE (h :: t)), none, some (.lst ((nm ++ [h]).map sE)), some (.lst ((ps ++ [t.map (ixOf nm)]).map pieceE)), none], ?_, rfl⟩
        have cc := compD_all (α := List Nat) (β := Nat) (bind := (XG.n 3).f) (e := (XE.index (.var 4) (.var 3)).f) (env := [some T, some R, some (rowE (h :: t)), none, some (.lst (nm.map sE)), some (.lst (ps.map pieceE)), none]) sE (ixOf nm) natE t (by rw [szl]; omega) (by
          intro w hw
          refine ⟨_, rfl, ?_⟩
          have ix := idxF_strs lw (lr w (List.mem_cons_of_mem _ hw))
          rw [find_some, if_pos (allm w hw)] at ix
          have zl : isLst1 (.lst (nm.map sE)) = true := rfl
          show (XE.index (.var 4) (.var 3)).f [some T, some R, some (rowE (h :: t)), some (sE w), some (.lst (nm.map sE)), some (.lst (ps.map pieceE)), none] = _
          generalize sE w = W at *
          simp [zl, ix])
        have c2 : c__law_due_of_2.f [some T, some R, some (rowE (h :: t)), none, some (.lst (nm.map sE)), some (.lst (ps.map pieceE)), none] = some (.ok (.lst ((t.map (ixOf nm)).map natE))) := by
          simp only [c__law_due_of_2, lc_f, iseq_f, sl_f, var_f, eget_succ, eget_zero, oe_f, kI_f, partF_ok, ono_f, b3_ok, i1, bI_ok, seqF_lst false _ (.inl rfl)]
          show (compD (XG.n 3).f XT.yes.f (XE.index (.var 4) (.var 3)).f (wipeE [some T, some R, some (rowE (h :: t)), none, some (.lst (nm.map sE)), some (.lst (ps.map pieceE)), none] [3]) (t.map sE) []).map _ = _
          have ew : wipeE [some T, some R, some (rowE (h :: t)), none, some (.lst (nm.map sE)), some (.lst (ps.map pieceE)), none] [3] = [some T, some R, some (rowE (h :: t)), none, some (.lst (nm.map sE)), some (.lst (ps.map pieceE)), none] := rfl
          rw [ew, cc]; rfl
        have s1 : (nm.map sE).length < sizeLine := by rw [List.length_map, szl]; omega
        have s2 : (ps.map pieceE).length < sizeLine := by rw [List.length_map, szl]; omega
        have r1 : (nm ++ [h]).map sE = nm.map sE ++ [sE h] := by rw [List.map_append]; rfl
        have r2 : (ps ++ [t.map (ixOf nm)]).map pieceE = ps.map pieceE ++ [.tup ((t.map (ixOf nm)).map natE)] := by rw [List.map_append]; rfl
        have im := immD_sE h
        rw [r1, r2]
        generalize (t.map (ixOf nm)).map natE = FL at *
        generalize rowE (h :: t) = RD at *
        generalize sE h = H at *
        generalize nm.map sE = NL at *
        generalize ps.map pieceE = PL at *
        simp only [b__law_due_of_4]
        simp [l1, i0, iw, hh, c2, s1, s2, im]
  · cases hq : t.all fun w => decide (w ∈ nm) with
    | true => rw [hq] at hfs; cases hfs
    | false =>
      have l1 := lf _ key
      refine .inr ⟨by simp only [stepR]; rw [hq]; simp, ?_⟩
      generalize rowE (h :: t) = RD at *
      generalize nm.map sE = NL at *
      generalize ps.map pieceE = PL at *
      simp only [b__law_due_of_4]
      simp [l1]
theorem stepR_low {s s' : St2} {r : List (List Nat)} (h : stepR s r = some s') (lw : ∀ w ∈ s.1, Low w) (lr : ∀ w ∈ r, Low w) : ∀ w ∈ s'.1, Low w := by
  unfold stepR at h
  split at h
  · cases h
  · next hd t =>
    split at h
    · cases h
      intro w hw
      rcases List.mem_append.mp hw with hw | hw
      · exact lw w hw
      · rw [List.mem_singleton.mp hw]; exact lr hd List.mem_cons_self
    · cases h
theorem due_rows (T : D) {rs : List (List (List Nat))} (hn : rs.length ≤ 10000001) (hr : ∀ r ∈ rs, (r ≠ [] ∧ r.length ≤ 10000001) ∧ ∀ w ∈ r, Low w) :
    (∃ s, told rs = some s ∧ (∀ w ∈ s.1, Low w) ∧ l__law_due_of_4.f (duS T (.lst (rs.map rowE)) ([], [])) = some (.nx (duS T (.lst (rs.map rowE)) s))) ∨ (told rs = none ∧ l__law_due_of_4.f (duS T (.lst (rs.map rowE)) ([], [])) = some (.rt nmD)) := by
  have key := forD_out (α := List (List Nat)) (β := St2) (bind := (XG.n 2).f) (body := b__law_due_of_4.f) (l := [2, 3]) (duS T (.lst (rs.map rowE))) rowE stepR (isRt nmD) isRt_end
    (fun xs s => (s.1.length + xs.length ≤ 10000001 ∧ s.2.length + xs.length ≤ 10000001 ∧ ∀ r ∈ xs, (r ≠ [] ∧ r.length ≤ 10000001) ∧ ∀ w ∈ r, Low w) ∧ ∀ w ∈ s.1, Low w) rs ([], []) ⟨⟨by simpa using hn, by simpa using hn, hr⟩, fun w hw => by cases hw⟩ (by
    intro r xs s ⟨⟨a, b, c⟩, d⟩
    rw [List.length_cons] at a b
    obtain ⟨⟨c1, c2⟩, c3⟩ := c r List.mem_cons_self
    refine ⟨_, rfl, ?_⟩
    rcases due_row T (.lst (rs.map rowE)) s r c1 c2 (by omega) (by omega) d c3 with ⟨s', h1, e2, h2, h3⟩ | ⟨h1, h2⟩
    · obtain ⟨g1, g2⟩ := stepR_len h1
      exact .inl ⟨s', h1, ⟨⟨by omega, by omega, fun x hx => c x (List.mem_cons_of_mem _ hx)⟩, stepR_low h1 d c3⟩, e2, .inl h2, h3⟩
    · exact .inr ⟨h1, _, h2, rfl⟩)
  have lf : ∀ o, forD (XG.n 2).f b__law_due_of_4.f [2, 3] (rs.map rowE) (duS T (.lst (rs.map rowE)) ([], [])) = o → l__law_due_of_4.f (duS T (.lst (rs.map rowE)) ([], [])) = o := by
    intro o ho
    have e1 : eget (duS T (.lst (rs.map rowE)) ([], [])) 1 = some (.ok (.lst (rs.map rowE))) := rfl
    simp only [l__law_due_of_4, for_f, iseq_f, var_f, e1, bI_ok, seqF_lst false _ (.inl rfl), bSI_ok]
    exact ho
  rcases key with ⟨s', h1, h3, h2⟩ | ⟨h1, o, h2, rfl⟩
  · exact .inl ⟨s', h1, h3.2, lf _ h2⟩
  · exact .inr ⟨h1, lf _ h2⟩
theorem due_fits (v0 v1 v2 v3 v4 : Option D) (full : List D) (hl : full.length ≤ 500) : ∀ (ds : List D) (ps : List (List Nat)), full = ps.map pieceE ++ ds → (∀ d ∈ ds, Itm d) → (∀ p ∈ ps, szOk p.length = true) →
    forD (XG.n 6).f b__law_due_of_5.f [6] ((List.range' ps.length ds.length).map natE) [v0, v1, v2, v3, v4, some (.lst full), none] = match badAt ps ds with
      | some n => some (.rt (.tup [.str "piece", .bl true, .int (n : Int)]))
      | none => some (.nx [v0, v1, v2, v3, v4, some (.lst full), none])
  | [], ps, _, _, _ => by simp [forD, badAt]
  | d :: ds, ps, he, hi, hs => by
    have hd := hi d List.mem_cons_self
    have f := (F_fit2 (pAt_sz hs) hd).2
    have s3 : 3 ≤ sizeLine := by decide
    rw [List.length_cons, List.range'_succ, List.map_cons, forD, badAt]
    show loopK (b__law_due_of_5.f [v0, v1, v2, v3, v4, some (.lst full), some (natE ps.length)]) _ _ = _
    have hlen : full.length = ps.length + (ds.length + 1) := by rw [he]; simp
    have t1 : slF false (.lst full) none (some (ps.length : Int)) = some (.ok (shapeE ps)) := by
      have := lst_to (fun x : D => x) full ps.length
      rw [List.map_id'] at this
      rw [this, List.map_id']
      unfold shapeE
      rw [he, List.take_left' (by simp)]
    have i1 : atI full (ps.length : Int) = some d := by
      rw [atI_nat' (by omega), he, List.getElem?_append_right (by simp)]
      simp
    cases hb : fitB ps d with
    | false =>
      rw [hb] at f
      have e : b__law_due_of_5.f [v0, v1, v2, v3, v4, some (.lst full), some (natE ps.length)] = some (.rt (.tup [.str "piece", .bl true, .int (ps.length : Int)])) := by
        simp [b__law_due_of_5, natE_def, t1, i1, f, s3]
      rw [e]
      simp [loopK]
    | true =>
      rw [hb] at f
      obtain ⟨e1, e2⟩ := fit_piece hb
      have e : b__law_due_of_5.f [v0, v1, v2, v3, v4, some (.lst full), some (natE ps.length)] = some (.nx [v0, v1, v2, v3, v4, some (.lst full), some (natE ps.length)]) := by
        simp [b__law_due_of_5, natE_def, t1, i1, f]
      rw [e]
      simp only [loopK, if_true]
      have ih := due_fits v0 v1 v2 v3 v4 full hl ds (ps ++ [toP d]) (by rw [he, List.map_append, List.append_assoc]; simp [← e1]) (fun x hx => hi x (List.mem_cons_of_mem _ hx)) (fun p hp => by
        rcases List.mem_append.mp hp with hp | hp
        · exact hs p hp
        · rw [List.mem_singleton.mp hp]; exact e2)
      have ek : killE [6] [v0, v1, v2, v3, v4, some (.lst full), some (natE ps.length)] = [v0, v1, v2, v3, v4, some (.lst full), none] := rfl
      rw [List.length_append] at ih
      rw [ek]
      exact ih
theorem F_due_of {w : List Nat} (h : Cut w) : pf__law_due_of.F [sE w] = some (.ok (dueW w)) := by
  have hn := rowsW_len h
  have s2 : 2 ≤ sizeLine := by decide
  have s3 : 3 ≤ sizeLine := by decide
  have isx : isiD .str (sE w) = some true := rfl
  have z1 : isStr1 (sE w) = true := rfl
  have e0 : eqF true (sE w) (.str "") = some (.ok (.bl (!decide (w = [])))) := by
    have := eqF_sE (a := w) (b := []) h.low (fun c hc => by cases hc) true
    rw [sE_nil] at this
    simpa using this
  -- the rows
  have rows : (XS.ite (.v (.eq true (.var 0) (.kS ""))) (.asg c__law_due_of_1 (.n 1)) .skip).f [some (sE w), some (.lst []), none, none, none, none, none] = some (.nx [some (sE w), some (.lst ((rowsW w).map rowE)), none, none, none, none, none]) := by
    by_cases hw : w = []
    · have er : rowsW w = [] := by rw [hw]; rfl
      rw [er]
      simp [hw] at e0
      have e0 : eqF true (sE w) (.str "") = some (.ok (.bl false)) := by rw [hw]; exact e0
      generalize sE w = T at *
      simp [e0]
    · have er : rowsW w = (splitW [59, 32] w).map (splitW [32]) := if_neg hw
      have sp := spl_sem h
      have hl := splitW_len [59, 32] w
      have hle := h.le
      have cc := compD_all (α := List Nat) (β := List (List Nat)) (bind := (XG.n 2).f) (e := (XE.splitT (.var 2) (.kS " ")).f) (env := [some (sE w), some (.lst []), none, none, none, none, none]) sE (splitW [32]) rowE (splitW [59, 32] w) (by rw [szl]; omega) (by
        intro p hp
        refine ⟨_, rfl, ?_⟩
        have sq := spl_blk (h.part hp)
        have zp : isStr1 (sE p) = true := rfl
        show (XE.splitT (.var 2) (.kS " ")).f [some (sE w), some (.lst []), some (sE p), none, none, none, none] = _
        generalize sE p = P at *
        simp [zp, sq])
      have c1 : c__law_due_of_1.f [some (sE w), some (.lst []), none, none, none, none, none] = some (.ok (.lst ((rowsW w).map rowE))) := by
        rw [er]
        simp only [c__law_due_of_1, lc_f, iseq_f, splitT_f, var_f, eget_zero, b1_ok, z1, if_true, kS_f, sp, bI_ok, seqF_lst false _ (.inl rfl)]
        have ew : wipeE [some (sE w), some (.lst []), none, none, none, none, none] [2] = [some (sE w), some (.lst []), none, none, none, none, none] := rfl
        rw [ew, cc]; rfl
      rw [decide_eq_false hw] at e0
      generalize sE w = T at *
      simp [e0, c1]
  have hu : ∀ r ∈ rowsW w, ∀ u ∈ r, u.length ≤ sizeLine := fun r hr u hu => by have := ((rowsW_mem h hr).2 u hu).z; omega
  have ln := law_names (sE w) hu
  unfold dueW
  cases ha : allN (rowsW w) with
  | false =>
    rw [ha] at ln
    rw [if_neg Bool.false_ne_true] at ln ⊢
    generalize sE w = T at *
    generalize (rowsW w).map rowE = RR at *
    simp only [pf__law_due_of, runD_eq, B__law_due_of]
    simp [isx] at rows ⊢
    rw [rows]
    simp [ln, txD]
  | true =>
    rw [ha] at ln
    rw [if_pos rfl] at ln ⊢
    have dr := due_rows (sE w) hn (fun r hr => ⟨rows_le h r hr, fun u hu => ((rowsW_mem h hr).2 u hu).low⟩)
    rcases dr with ⟨s, ht, _, lp⟩ | ⟨ht, lp⟩
    · rw [ht]
      dsimp only
      obtain ⟨g1, g2⟩ := told_len ht
      have start : pf__law_due_of.F [sE w] = finD ((XS.seq (.ite (.v (.iop IOp.gt (.bi BI.len (.cons (.var 5) .nil)) (.kI 40))) (.ret (.tup (.cons (.kS "shape") (.cons (.kB true) .nil)))) .skip)
  (.seq l__law_due_of_5
  (.ret (.tup (.cons (.kS "good") (.cons (.mv 5) (.cons (.mv 4) .nil))))))).f (duS (sE w) (.lst ((rowsW w).map rowE)) s)) := by
        unfold duS at lp ⊢
        generalize sE w = T at *
        generalize (rowsW w).map rowE = RR at *
        generalize s.1.map sE = NL at *
        generalize s.2.map pieceE = PL at *
        simp only [pf__law_due_of, runD_eq, B__law_due_of]
        simp [isx] at rows ⊢
        rw [rows]
        simp at lp
        simp [ln, lp]
      rw [start]
      unfold duS dueS
      have l5 : lenF [.lst (s.2.map pieceE)] = some (.int (s.2.length : Int)) := by simp
      by_cases h40 : s.2.length > 40
      · rw [if_pos h40]
        have h' : (40 : Int) < s.2.length := by omega
        generalize s.2.map pieceE = PL at *
        generalize s.1.map sE = NL at *
        simp [l5, h', s2]
      · rw [if_neg h40]
        have h' : ¬ (40 : Int) < s.2.length := by omega
        have h'' : ¬ 40 < s.2.length := h40
        have itm : ∀ d ∈ s.2.map pieceE, Itm d := by
          intro d hd
          obtain ⟨p, _, rfl⟩ := List.mem_map.mp hd
          refine .tup _ fun d hd => ?_
          obtain ⟨q, _, rfl⟩ := List.mem_map.mp hd
          exact .int _
        have key := due_fits (some (sE w)) (some (.lst ((rowsW w).map rowE))) none none (some (.lst (s.1.map sE))) (s.2.map pieceE) (by rw [List.length_map]; omega) (s.2.map pieceE) [] rfl itm (fun p hp => by cases hp)
        rw [List.length_map, List.length_nil] at key
        have lp5 : l__law_due_of_5.f [some (sE w), some (.lst ((rowsW w).map rowE)), none, none, some (.lst (s.1.map sE)), some (.lst (s.2.map pieceE)), none] = forD (XG.n 6).f b__law_due_of_5.f [6] ((List.range' 0 s.2.length).map natE) [some (sE w), some (.lst ((rowsW w).map rowE)), none, none, some (.lst (s.1.map sE)), some (.lst (s.2.map pieceE)), none] := by
          simp only [l__law_due_of_5, for_f, ir1_f, bi_f, len_g, acons_f, anil_f, var_f, eget_succ, eget_zero, bA_ok, bL_ok, l5, Option.map_some, bLI_ok, rgn s.2.length (by omega), bSI_ok, List.range_eq_range']
        rw [← lp5] at key
        generalize sE w = T at *
        generalize (rowsW w).map rowE = RR at *
        generalize s.1.map sE = NL at *
        unfold shapeE
        cases q : badAt [] (s.2.map pieceE) with
        | some n =>
          rw [q] at key
          generalize s.2.map pieceE = PL at *
          simp [l5, h', h'', key]
        | none =>
          rw [q] at key
          generalize s.2.map pieceE = PL at *
          simp [l5, h', h'', key, s3]
    · rw [ht]
      dsimp only
      unfold duS at lp
      generalize sE w = T at *
      generalize (rowsW w).map rowE = RR at *
      simp only [pf__law_due_of, runD_eq, B__law_due_of]
      simp [isx] at rows ⊢
      rw [rows]
      simp at lp
      simp [ln, lp, nmD]
theorem rf_due {w : List Nat} (h : Cut w) : Rf 3 (dueW w) := by
  have rs : ∀ (w : Str), w.cps.all (fun x => decide (x < 0x110000)) = true → Rf 0 (.str w) := fun w hw => ⟨.str w, rfl, hw, Nat.le_refl _, by show (w == w) = true; simp⟩
  have rb : ∀ b, Rf 0 (.bl b) := fun b => rf_of EqE.bl b
  have ri : ∀ b, Rf 0 (.int b) := fun b => rf_of EqE.int b
  have two : ∀ s : Str, s.cps.all (fun x => decide (x < 0x110000)) = true → Rf 3 (.tup [.str s, .bl true]) := fun s hs => by
    refine (rf_tup (n := 0) fun x hx => ?_).mono (by omega)
    simp only [List.mem_cons, List.not_mem_nil, or_false] at hx
    rcases hx with rfl | rfl
    · exact rs _ hs
    · exact rb _
  unfold dueW
  split
  · split
    · next s ht =>
      unfold dueS
      split
      · exact two "shape" (by decide +kernel)
      · split
        · refine (rf_tup (n := 0) fun x hx => ?_).mono (by omega)
          simp only [List.mem_cons, List.not_mem_nil, or_false] at hx
          rcases hx with rfl | rfl | rfl
          · exact rs _ (by decide +kernel)
          · exact rb _
          · exact ri _
        · refine (rf_tup (n := 2) fun x hx => ?_)
          simp only [List.mem_cons, List.not_mem_nil, or_false] at hx
          rcases hx with rfl | rfl | rfl
          · exact (rs _ (by decide +kernel)).mono (by omega)
          · exact rf_of EqE.shape _
          · refine (rf_lst (n := 0) fun x hx => ?_).mono (by omega)
            obtain ⟨u, hu, rfl⟩ := List.mem_map.mp hx
            have dr := due_rows (.int 0) (rowsW_len h) (fun r hr => ⟨rows_le h r hr, fun u hu => ((rowsW_mem h hr).2 u hu).low⟩)
            rcases dr with ⟨s', ht', lw, _⟩ | ⟨ht', _⟩
            · rw [ht] at ht'
              cases ht'
              exact ⟨.str (mkS u), rfl, str_ok (lw u hu), Nat.le_refl _, by show (mkS u == mkS u) = true; simp⟩
            · rw [ht] at ht'; cases ht'
    · exact two "name" (by decide +kernel)
  · exact two "text" (by decide +kernel)
/-- what is no text at all -/
theorem F_noText {d : D} (hd : isiD .str d = some false) : pf__law_due_of.F [d] = some (.ok txD) ∧ pf__law_told_by.F [d] = some (.ok txD) := by
  have s2 : 2 ≤ sizeLine := by decide
  refine ⟨by simp [pf__law_due_of, runD_eq, B__law_due_of, hd, s2, txD], ?_⟩
  have rr : pf_rows_of.F [d] = some (.ex 0 .non) := by simp [pf_rows_of, runD_eq, B_rows_of, hd]
  have l2 : l_read_2.f (rdS d ([], [])) = some (.ex 0 .non (rdS d ([], []))) := by
    have c : (XE.call pf_rows_of (.cons false (.var 0) .nil)).f (rdS d ([], [])) = some (.ex 0 .non) := by
      show bL (bA (eget (rdS d ([], [])) 0) (some (.ok []))) pf_rows_of.F = _
      exact rr
    simp only [l_read_2, for_f, iseq_f, c, bI_ex, bSI_ex]
  have rd : pf_read.F [d] = some (.ex 0 .non) := by
    have l2 : l_read_2.f [some d, some (.dct []), some (.lst []), some (.lst []), none, none, none] = some (.ex 0 .non (rdS d ([], []))) := l2
    simp [pf_read, runD_eq, B_read, l2]
  rw [told_ex rd (by decide) (res := r__law_told_by_1) rfl (by unfold r__law_told_by_1; rw [alone 0 (by decide)])]
  have e := eqp "text" (by decide +kernel)
  have e2 : (("text" : Str) == "piece") = false := by decide +kernel
  rw [e2] at e
  have i0 : atI [D.str "text", .bl true] 0 = some (.str "text") := rfl
  simp [tail_told, isN, i0, e, txD]
theorem rf_tx : Rf 3 txD := by
  refine (rf_tup (n := 0) fun x hx => ?_).mono (by omega)
  simp only [List.mem_cons, List.not_mem_nil, or_false] at hx
  rcases hx with rfl | rfl
  · exact ⟨.str "text", rfl, (by decide +kernel), Nat.le_refl _, by show (("text" : Str) == "text") = true; simp⟩
  · exact rf_of EqE.bl _
/-! ### the text spoilt -/
structure Shortn (n : Nat) (w : List Nat) : Prop where
  low : Low w
  le : w.length ≤ n
theorem Low.app {a b : List Nat} (h : Low a) (h' : Low b) : Low (a ++ b) := fun c hc => (List.mem_append.mp hc).elim (h c) (h' c)
theorem Low.sub {a b : List Nat} (h : Low a) (hs : ∀ c ∈ b, c ∈ a) : Low b := fun c hc => h c (hs c hc)
theorem F_sign_by (z : Int) : ∃ c, c < 256 ∧ pf__law_sign_by.F [.int z] = some (.ok (sE [c])) := by
  obtain ⟨S1, hB, low, h100⟩ : ∃ S1 : Str, B__law_sign_by = (.seq (.asg (.kS S1) (.n 1)) (.seq (.asg (.add true (.var 1) (.kS "abcdefghijklmnopqrstuvwxyz")) (.n 1)) (.ret (.imm (.ix (.var 1) (.iop IOp.mod (.var 0) (.bi BI.len (.cons (.var 1) .nil)))))))) ∧ S1.cps.all (fun c => decide (c < 256)) = true ∧ S1.length ≤ 200 := ⟨_, rfl, by decide +kernel, by decide +kernel⟩
  obtain ⟨a, rfl⟩ : ∃ a, S1 = mkS a := ⟨TL.tl S1, (mkS_tl S1).symm⟩
  have la : a.length ≤ 200 := by rw [len_mkS] at h100; exact h100
  have lowa : Low a := fun c hc => by
    have h := low
    rw [← Array.all_toList] at h
    exact of_decide_eq_true (List.all_eq_true.mp h c hc)
  have lowb : Low ABC := by intro c hc; revert c; decide
  have ad : addF true (.str (mkS a)) (.str "abcdefghijklmnopqrstuvwxyz") = some (.ok (sE (a ++ ABC))) := by
    rw [abc_sE]
    exact sE_add true a ABC (by have : ABC.length = 26 := rfl; rw [szl]; omega)
  have l26 : (a ++ ABC).length = a.length + 26 := by rw [List.length_append]; rfl
  have hlow := Low.app lowa lowb
  generalize a ++ ABC = L at *
  have ln := sE_len L (by rw [szl]; omega)
  obtain ⟨j, hj, ej⟩ := small_fmod z L.length (by omega)
  have m := mod_g (i := z) (j := (L.length : Int)) (by omega)
  rw [ej] at m
  have ix := sE_ix L j hj (by rw [szl]; omega)
  have im := immD_sE [L.getD j 0]
  refine ⟨L.getD j 0, hlow _ (by rw [List.getD_eq_getElem?_getD, List.getElem?_eq_getElem hj]; exact List.getElem_mem hj), ?_⟩
  have e : pf__law_sign_by.F [.int z] = runD B__law_sign_by 1 [.int z] := rfl
  rw [e, hB, runD_eq]
  generalize L.getD j 0 = cc at *
  generalize sE L = LL at *
  generalize sE [cc] = R1 at *
  have kS : ∀ env, (XE.kS (mkS a)).f env = some (.ok (.str (mkS a))) := fun _ => rfl
  generalize hA : D.str (mkS a) = A at *
  simp [hA, ad, ln, m, ix, im]
theorem strs_to (ws : List (List Nat)) (n : Nat) : slF false (.lst (ws.map sE)) none (some (n : Int)) = some (.ok (.lst ((ws.take n).map sE))) := lst_to sE ws n
theorem strs_from (ws : List (List Nat)) (n : Nat) : slF false (.lst (ws.map sE)) (some (n : Int)) none = some (.ok (.lst ((ws.drop n).map sE))) := lst_from sE ws n
theorem rep_12 {x : D} (hx : immD x = true) (v : Nat) (hv : v < 2) : repF (.lst [x]) (.int ((1 : Int) + v)) = some (.ok (.lst (List.replicate (1 + v) x))) := by
  have e : (1 : Int) + v = ((1 + v : Nat) : Int) := by omega
  rw [e]
  have hc : Nat.blt (((1 + v : Nat) : Int).natAbs) 9223372036854775808 = true ∧ ([x] : List D).length * (((1 + v : Nat) : Int).toNat) ≤ sizeLine ∧ immL [x] = true := ⟨Nat.blt_eq.mpr (by omega), by simp [szl]; omega, by simp [hx]⟩
  unfold repF
  simp only [if_pos hc]
  have : ∀ n : Nat, (List.replicate n [x]).flatten = List.replicate n x := fun n => by
    induction n with
    | zero => rfl
    | succ n ih => rw [List.replicate_succ, List.flatten_cons, ih, List.replicate_succ]; rfl
  rw [Int.toNat_natCast, this]
theorem jn_short {Q : List (List Nat)} (hl : Q.length ≤ 2600) (hq : ∀ u ∈ Q, Shortn 2500 u) : Shortn 6600000 (jn [32] Q) ∧ joinF (.str " ") (.lst (Q.map sE)) = some (.ok (sE (jn [32] Q))) := by
  have hs : (Q.map (·.length)).sum ≤ 2500 * Q.length := by
    have := sum_le (n := 2500) (Q.map (·.length)) (fun x hx => by
      obtain ⟨u, hu, rfl⟩ := List.mem_map.mp hx
      exact (hq u hu).le)
    rwa [List.length_map] at this
  have hjl := jn_len [32] Q
  have h1 : ([32] : List Nat).length = 1 := rfl
  rw [h1] at hjl
  refine ⟨⟨fun c hc => ?_, by omega⟩, ?_⟩
  · rcases mem_jn hc with hc | ⟨u, hu, hc⟩
    · rw [List.mem_singleton.mp hc]; decide
    · exact (hq u hu).low c hc
  · rw [blk_sE]
    exact joinF_sE [32] Q (by rw [h1]; omega)
theorem F_spoilt_by (s : D) {w : List Nat} (h : Shortn 2500 w) (hc : ∀ i : Int, 0 ≤ i → ∃ z : Int, pf__law_cell_at.F [s, .int i] = some (.ok (.int z))) :
    ∃ u, Shortn 6600000 u ∧ pf__law_spoilt_by.F [s, sE w] = some (.ok (sE u)) := by
  obtain ⟨c1, hc1⟩ := hc 1 (by decide)
  obtain ⟨c2, hc2⟩ := hc 2 (by decide)
  obtain ⟨c3, hc3⟩ := hc 3 (by decide)
  have hle := h.le
  obtain ⟨r, hr, er⟩ := small_fmod c1 6 (by decide)
  obtain ⟨a, ha, ea⟩ := small_fmod c2 (w.length + 1) (by omega)
  have m1 : IOp.mod.g c1 6 = some (.int (r : Int)) := by rw [mod_g (by decide)]; simp at er; rw [er]
  have m2 : IOp.mod.g c2 ((w.length : Int) + 1) = some (.int (a : Int)) := by
    rw [mod_g (by omega)]
    have e : ((w.length + 1 : Nat) : Int) = (w.length : Int) + 1 := by omega
    rw [e] at ea
    rw [ea]
  clear er ea
  have ln := sE_len w (by rw [szl]; omega)
  have start : pf__law_spoilt_by.F [s, sE w] = finD (t__law_spoilt_by_4.f [some s, some (sE w), some (.int c1), some (.int (a : Int)), some (.int c3), none, none, none]) := by
    generalize sE w = W at *
    simp [pf__law_spoilt_by, runD_eq, B__law_spoilt_by, t__law_spoilt_by_2, t__law_spoilt_by_3, hc1, hc2, hc3, ln, m2]
  rw [start]
  obtain ⟨cg, hcg, sg⟩ := F_sign_by c3
  obtain ⟨u1, e1, l1, k1⟩ := slF_text false w none (some (a : Int)) (by rw [szl]; omega)
  obtain ⟨u2, e2, l2, k2⟩ := slF_text false w (some (a : Int)) none (by rw [szl]; omega)
  obtain ⟨u3, e3, l3, k3⟩ := slF_text false w (some ((a : Int) + 1)) none (by rw [szl]; omega)
  have lc : Low [cg] := fun c hc => by rw [List.mem_singleton.mp hc]; exact hcg
  have low1 := Low.sub h.low k1
  have low2 := Low.sub h.low k2
  have low3 := Low.sub h.low k3
  by_cases r1 : r = 1
  · have a1 := sE_add false u1 [cg] (by rw [szl]; simp; omega)
    have a2 := sE_add true (u1 ++ [cg]) u2 (by rw [szl, List.length_append]; simp; omega)
    refine ⟨(u1 ++ [cg]) ++ u2, ⟨Low.app (Low.app low1 lc) low2, by simp; omega⟩, ?_⟩
    generalize sE ((u1 ++ [cg]) ++ u2) = X at *
    generalize sE (u1 ++ [cg]) = Y at *
    generalize sE w = W at *
    subst r1
    simp [t__law_spoilt_by_4, m1, e1, e2, sg, a1, a2]
  · have r1' : ¬ (r : Int) = 1 := by omega
    by_cases r2 : r = 2
    · have a2 := sE_add true u1 u3 (by rw [szl]; omega)
      refine ⟨u1 ++ u3, ⟨Low.app low1 low3, by simp; omega⟩, ?_⟩
      generalize sE (u1 ++ u3) = X at *
      generalize sE w = W at *
      subst r2
      simp [t__law_spoilt_by_4, t__law_spoilt_by_5, m1, e1, e3, a2]
    · have r2' : ¬ (r : Int) = 2 := by omega
      by_cases r3 : r = 3
      · have a1 := sE_add false u1 [cg] (by rw [szl]; simp; omega)
        have a2 := sE_add true (u1 ++ [cg]) u3 (by rw [szl, List.length_append]; simp; omega)
        refine ⟨(u1 ++ [cg]) ++ u3, ⟨Low.app (Low.app low1 lc) low3, by simp; omega⟩, ?_⟩
        generalize sE ((u1 ++ [cg]) ++ u3) = X at *
        generalize sE (u1 ++ [cg]) = Y at *
        generalize sE w = W at *
        subst r3
        simp [t__law_spoilt_by_4, t__law_spoilt_by_5, t__law_spoilt_by_6, m1, e1, e3, sg, a1, a2]
      · have r3' : ¬ (r : Int) = 3 := by omega
        have cw : Cut w := ⟨h.low, by omega⟩
        have sp := spl_blk cw
        have pne := splitW_ne [32] w
        have pl := splitW_len [32] w
        have pm : ∀ u ∈ splitW [32] w, Shortn 2500 u := fun u hu => ⟨(cw.part hu).low, Nat.le_trans (splitW_le hu) h.le⟩
        generalize splitW [32] w = P at *
        have p0 : 0 < P.length := List.length_pos_iff.mpr pne
        obtain ⟨sp6, h6, e6⟩ := small_fmod c3 P.length p0
        obtain ⟨j7, h7, e7⟩ := small_fmod (c3 / 7) P.length p0
        have m6 : IOp.mod.g c3 (P.length : Int) = some (.int (sp6 : Int)) := by rw [mod_g (by omega), e6]
        have m7 : IOp.mod.g (c3 / 7) (P.length : Int) = some (.int (j7 : Int)) := by rw [mod_g (by omega), e7]
        have d7 : IOp.fdv.g c3 7 = some (.int (c3 / 7)) := fdv_g (cdiv_of 8 (by decide) (by decide))
        have d6 : IOp.fdv.g c1 6 = some (.int (c1 / 6)) := fdv_g (cdiv_of 8 (by decide) (by decide))
        have d12 : IOp.fdv.g c1 12 = some (.int (c1 / 12)) := fdv_g (cdiv_of 8 (by decide) (by decide))
        obtain ⟨q, hq, eq6⟩ := small_fmod (c1 / 6) 2 (by decide)
        obtain ⟨v, hv, ev⟩ := small_fmod (c1 / 12) 2 (by decide)
        have mq : IOp.mod.g (c1 / 6) 2 = some (.int (q : Int)) := by rw [mod_g (by decide)]; simp at eq6; rw [eq6]
        have mv : IOp.mod.g (c1 / 12) 2 = some (.int (v : Int)) := by rw [mod_g (by decide)]; simp at ev; rw [ev]
        have lnP : lenF [.lst (P.map sE)] = some (.int (P.length : Int)) := by simp
        have i7 : ixF (.lst (P.map sE)) (.int (j7 : Int)) = some (.ok (sE (P.getD j7 []))) := by
          rw [ix_map sE P j7 h7]; simp [h7]
        have ho : Shortn 2500 (P.getD j7 []) := by
          rw [List.getD_eq_getElem?_getD, List.getElem?_eq_getElem h7]; exact pm _ (List.getElem_mem h7)
        generalize P.getD j7 [] = o at *
        have imo := immD_sE o
        have zw : isStr1 (sE w) = true := rfl
        have sp' : splitF (sE w) (.str " ") = some (.ok (.lst (P.map sE))) := sp
        have go9 : t__law_spoilt_by_4.f [some s, some (sE w), some (.int c1), some (.int (a : Int)), some (.int c3), none, none, none] = t__law_spoilt_by_10.f [some s, some (sE w), some (.int c1), some (.int (a : Int)), some (.int c3), some (.lst (P.map sE)), some (.int (sp6 : Int)), some (sE o)] := by
          generalize sE w = W at *
          generalize sE o = O at *
          generalize P.map sE = PL at *
          simp [t__law_spoilt_by_4, t__law_spoilt_by_5, t__law_spoilt_by_6, t__law_spoilt_by_7, t__law_spoilt_by_8, t__law_spoilt_by_9, m1, r1, r1', r2, r2', r3, r3', zw, sp', lnP, m6, d7, m7, i7, imo]
        rw [go9]
        -- the other word
        have go10 : ∃ o', Shortn 2500 o' ∧ t__law_spoilt_by_10.f [some s, some (sE w), some (.int c1), some (.int (a : Int)), some (.int c3), some (.lst (P.map sE)), some (.int (sp6 : Int)), some (sE o)] = t__law_spoilt_by_11.f [some s, some (sE w), some (.int c1), some (.int (a : Int)), some (.int c3), some (.lst (P.map sE)), some (.int (sp6 : Int)), some (sE o')] := by
          have hol := ho.le
          obtain ⟨b1, f1, g1, x1⟩ := slF_text false o (some (-1)) none (by rw [szl]; omega)
          obtain ⟨b2, f2, g2, x2⟩ := slF_text true o none (some (-1)) (by rw [szl]; omega)
          have es : eqF false (sE b1) (.str ";") = some (.ok (.bl (decide (b1 = [59])))) := by
            have := eqF_sE (a := b1) (b := [59]) (Low.sub ho.low x1) (by simp) false
            have e59 : D.str ";" = sE [59] := congrArg D.str (by decide +kernel : (";" : Str) = mkS [59])
            rw [e59, this]; rfl
          by_cases q0 : q = 0
          · by_cases hb : b1 = [59]
            · refine ⟨b2, ⟨Low.sub ho.low x2, by omega⟩, ?_⟩
              rw [decide_eq_true hb] at es
              subst q0
              generalize sE w = W at *
              generalize sE o = O at *
              generalize sE b1 = B1 at *
              simp [t__law_spoilt_by_10, d6, mq, f1, es, f2]
            · refine ⟨o, ho, ?_⟩
              rw [decide_eq_false hb] at es
              subst q0
              generalize sE w = W at *
              generalize sE o = O at *
              generalize sE b1 = B1 at *
              simp [t__law_spoilt_by_10, d6, mq, f1, es]
          · refine ⟨o, ho, ?_⟩
            have q0' : ¬ (q : Int) = 0 := by omega
            generalize sE w = W at *
            generalize sE o = O at *
            simp [t__law_spoilt_by_10, d6, mq, q0, q0']
        obtain ⟨o', ho', go10⟩ := go10
        rw [go10]
        have imo' := immD_sE o'
        -- what is joined
        have fin : ∀ Q : List (List Nat), Q.length ≤ 2600 → (∀ u ∈ Q, Shortn 2500 u) → t__law_spoilt_by_11.f [some s, some (sE w), some (.int c1), some (.int (a : Int)), some (.int c3), some (.lst (P.map sE)), some (.int (sp6 : Int)), some (sE o')] = t__law_spoilt_by_13.f [some s, some (sE w), some (.int c1), some (.int (a : Int)), some (.int c3), some (.lst (Q.map sE)), some (.int (sp6 : Int)), some (sE o')] →
            ∃ u, Shortn 6600000 u ∧ finD (t__law_spoilt_by_11.f [some s, some (sE w), some (.int c1), some (.int (a : Int)), some (.int c3), some (.lst (P.map sE)), some (.int (sp6 : Int)), some (sE o')]) = some (.ok (sE u)) := by
          intro Q hQ hq e
          obtain ⟨j1, j2⟩ := jn_short hQ hq
          refine ⟨_, j1, ?_⟩
          rw [e]
          have zb : isStr1 (.str " ") = true := rfl
          generalize Q.map sE = QL at *
          simp [t__law_spoilt_by_13, zb, j2]
        by_cases r4 : r = 4
        · have pj : setF (sE o') (.int (sp6 : Int)) (.lst (P.map sE)) = some (.lst ((P.set sp6 o').map sE)) := by
            rw [List.map_set]
            unfold setF ixN
            simp [h6]
          refine fin (P.set sp6 o') (by rw [List.length_set]; omega) (fun u hu => ?_) ?_
          · rcases List.mem_or_eq_of_mem_set hu with hu | hu
            · exact pm u hu
            · rw [hu]; exact ho'
          · subst r4
            generalize sE w = W at *
            generalize sE o' = O at *
            generalize P.map sE = PL at *
            generalize (P.set sp6 o').map sE = QL at *
            simp [t__law_spoilt_by_11, t__law_spoilt_by_12, m1, imo', pj]
        · have r4' : ¬ (r : Int) = 4 := by omega
          by_cases r5 : r = 5
          · have rp := rep_12 imo' v hv
            have t1 := strs_to P sp6
            have t2 := strs_from P sp6
            have er : List.replicate (1 + v) (sE o') = (List.replicate (1 + v) o').map sE := by rw [List.map_replicate]
            rw [er] at rp
            have ad1 := lst_add (e := sE) immD_sE false (P.take sp6) (List.replicate (1 + v) o') (by rw [List.length_take, List.length_replicate, szl]; omega)
            have ad2 := lst_add (e := sE) immD_sE true (P.take sp6 ++ List.replicate (1 + v) o') (P.drop sp6) (by rw [List.length_append, List.length_take, List.length_replicate, List.length_drop, szl]; omega)
            refine fin ((P.take sp6 ++ List.replicate (1 + v) o') ++ P.drop sp6) (by rw [List.length_append, List.length_append, List.length_take, List.length_replicate, List.length_drop]; omega) (fun u hu => ?_) ?_
            · rcases List.mem_append.mp hu with hu | hu
              · rcases List.mem_append.mp hu with hu | hu
                · exact pm u (List.mem_of_mem_take hu)
                · rw [List.eq_of_mem_replicate hu]; exact ho'
              · exact pm u (List.mem_of_mem_drop hu)
            · subst r5
              have s1 : 1 ≤ sizeLine := by decide
              generalize sE w = W at *
              generalize ((P.take sp6 ++ List.replicate (1 + v) o') ++ P.drop sp6).map sE = QL at *
              generalize (P.take sp6 ++ List.replicate (1 + v) o').map sE = Q2 at *
              generalize (List.replicate (1 + v) o').map sE = RL at *
              generalize (P.take sp6).map sE = TL1 at *
              generalize (P.drop sp6).map sE = TL2 at *
              generalize sE o' = O at *
              simp [t__law_spoilt_by_11, t__law_spoilt_by_12, m1, d12, mv, s1, t1, t2, rp, ad1, ad2]
          · have r5' : ¬ (r : Int) = 5 := by omega
            refine fin P (by omega) pm ?_
            simp [t__law_spoilt_by_11, t__law_spoilt_by_12, m1, r4, r4', r5, r5']
def W4 : List (List Nat) := [[119], [120, 119], [121, 120, 119], [122, 121, 120, 119]]
theorem W4_D : [D.str "w", .str "xw", .str "yxw", .str "zyxw"] = W4.map sE := by
  have h1 : D.str "w" = sE [119] := congrArg D.str (by decide +kernel : ("w" : Str) = mkS [119])
  have h2 : D.str "xw" = sE [120, 119] := congrArg D.str (by decide +kernel : ("xw" : Str) = mkS [120, 119])
  have h3 : D.str "yxw" = sE [121, 120, 119] := congrArg D.str (by decide +kernel : ("yxw" : Str) = mkS [121, 120, 119])
  have h4 : D.str "zyxw" = sE [122, 121, 120, 119] := congrArg D.str (by decide +kernel : ("zyxw" : Str) = mkS [122, 121, 120, 119])
  rw [h1, h2, h3, h4]; rfl
theorem tup_to (xs : List D) (n : Nat) : slF false (.tup xs) none (some (n : Int)) = some (.ok (.tup (xs.take n))) := by
  show some (DL.R.ok (D.tup (cutD xs none (some (n : Int))))) = _
  rw [cutD_to]
theorem law_true (ns : List Int) (hl : ns.length ≤ 63) (hb : ∀ z ∈ ns, Builtin.Int.intBits z ≤ 1048576) : pf_law.F [.scr (ns.map .int)] = some (.ok (.bl true)) := by
  have f0 := F_cell ns 0 (by decide)
  have f3 := F_cell ns 3 (by decide)
  have f4 := F_cell ns 4 (by decide)
  have fc : ∀ i : Int, 0 ≤ i → ∃ z : Int, pf__law_cell_at.F [.scr (ns.map .int), .int i] = some (.ok (.int z)) := fun i hi => ⟨_, F_cell ns i hi⟩
  have cut : slF false (.scr (ns.map .int)) (some 4) (some 54) = some (.ok (.lst (((ns.drop 4).take 50).map .int))) := scr_cuts false ns 4 54
  generalize ns.getD (Int.toNat 0) 0 = c0 at f0
  generalize ns.getD (Int.toNat 3) 0 = c3 at f3
  generalize ns.getD (Int.toNat 4) 0 = c4 at f4
  generalize (ns.drop 4).take 50 = cells at cut
  generalize D.scr (ns.map D.int) = scr at *
  obtain ⟨ws0, hW, hs⟩ := F_shape_by c0 cells 40 (by decide)
  have hle := hW.le
  have hP := pieces_placed hW
  have hpl : (piecesOf (famOf c0) ws0).length = ws0.length := by unfold piecesOf; rw [List.length_map]
  generalize piecesOf (famOf c0) ws0 = ps at *
  have hlen : ps.length ≤ 40 := by omega
  obtain ⟨ws, hN, hn⟩ := F_names_by c4 ps.length hlen
  have pin : ∀ i, (pAt ps i).length ≤ 4 ∧ ∀ f ∈ pAt ps i, f < ps.length := by
    intro i
    unfold pAt
    rw [List.getD_eq_getElem?_getD]
    rcases Nat.lt_or_ge i ps.length with c | c
    · rw [List.getElem?_eq_getElem c]
      have := hP _ (List.getElem_mem c)
      refine ⟨?_, this.2⟩
      show ps[i].length ≤ 4
      have := this.1
      omega
    · rw [List.getElem?_eq_none c]; exact ⟨by simp, fun f hf => by cases hf⟩
  have hT : Tx ws ps := ⟨hN, hlen, fun i => (pin i).1, fun i f hf => (pin i).2 f hf⟩
  have tb := F_text_by hT
  obtain ⟨u, su, hsp⟩ := F_spoilt_by scr (w := textT ws ps) ⟨hT.chr, by have := hT.text_len; omega⟩ fc
  have ln := shapeE_len ps
  rw [natE_def] at hn
  simp at hs
  have e0 : pf_law.F [scr] = finD (B_law.f [some scr, none, none, none, none, none]) := rfl
  have go : finD (B_law.f [some scr, none, none, none, none, none]) = finD (t_law_4.f [some scr, some (shapeE ps), some (.lst (ws.map sE)), some (sE u), none, none]) := by
    generalize shapeE ps = SH at *
    generalize ws.map sE = WS at *
    generalize sE (textT ws ps) = TT at *
    generalize sE u = U at *
    simp [B_law, t_law_2, t_law_3, f0, f4, cut, hs, ln, hn, tb, hsp]
  rw [e0, go]
  have d57 : IOp.fdv.g c0 57 = some (.int (c0 / 57)) := fdv_g (cdiv_of 8 (by decide) (by decide))
  obtain ⟨p, hp, ep⟩ := small_fmod (c0 / 57) 5 (by decide)
  obtain ⟨q, hq, eq⟩ := small_fmod (c0 / 57) 10 (by decide)
  obtain ⟨k, hk, ek⟩ := small_fmod c3 5 (by decide)
  have m5 : IOp.mod.g (c0 / 57) 5 = some (.int (p : Int)) := by rw [mod_g (by decide)]; simp at ep; rw [ep]
  have m10 : IOp.mod.g (c0 / 57) 10 = some (.int (q : Int)) := by rw [mod_g (by decide)]; simp at eq; rw [eq]
  have mk : IOp.mod.g c3 5 = some (.int (k : Int)) := by rw [mod_g (by decide)]; simp at ek; rw [ek]
  have s4 : 4 ≤ sizeLine := by decide
  -- points behind
  have four : ∃ u', Cut u' ∧ t_law_4.f [some scr, some (shapeE ps), some (.lst (ws.map sE)), some (sE u), none, none] = t_law_5.f [some scr, some (shapeE ps), some (.lst (ws.map sE)), some (sE u'), none, none] := by
    by_cases p1 : p = 1
    · have key := forD_out (α := List Nat) (β := List Nat) (bind := (XG.n 4).f) (body := b_law_1.f) (l := [4]) (fun w => [some scr, some (shapeE ps), some (.lst (ws.map sE)), some (sE w), none, none]) sE
        (fun w n => some ((w ++ [59, 32]) ++ n)) (fun _ => False) (fun _ h => h.elim) (fun xs w => Low w ∧ w.length + 6 * xs.length ≤ 6600024 ∧ ∀ n ∈ xs, n.length ≤ 4 ∧ Low n) (W4.take k) u ⟨su.low, by
          have := su.le
          have : (W4.take k).length ≤ 4 := by rw [List.length_take]; exact Nat.min_le_right _ _
          omega, fun n hn => by
          have hn := List.mem_of_mem_take hn
          have : ∀ n ∈ W4, n.length ≤ 4 ∧ ∀ c ∈ n, c < 256 := by decide
          exact this n hn⟩ (by
          intro n xs w ⟨a, b, c⟩
          rw [List.length_cons] at b
          obtain ⟨c1, c2⟩ := c n List.mem_cons_self
          have a1 := sE_add false w [59, 32] (by rw [szl]; simp; omega)
          have a2 := sE_add true (w ++ [59, 32]) n (by rw [szl, List.length_append]; simp; omega)
          refine ⟨_, rfl, .inl ⟨_, rfl, ⟨Low.app (Low.app a (by intro c hc; revert c; decide)) c2, by simp; omega, fun x hx => c x (List.mem_cons_of_mem _ hx)⟩, [some scr, some (shapeE ps), some (.lst (ws.map sE)), some (sE ((w ++ [59, 32]) ++ n)), some (sE n), none], .inl ?_, rfl⟩⟩
          show b_law_1.f [some scr, some (shapeE ps), some (.lst (ws.map sE)), some (sE w), some (sE n), none] = _
          generalize sE ((w ++ [59, 32]) ++ n) = X at *
          generalize sE w = W at *
          generalize sE n = N at *
          generalize shapeE ps = SH at *
          generalize ws.map sE = WS at *
          simp [b_law_1, sem_sE, a1, a2])
      rcases key with ⟨u', _, ⟨hu1, hu2, _⟩, key⟩ | ⟨_, o, _, ho⟩
      · refine ⟨u', ⟨hu1, by simp at hu2; omega⟩, ?_⟩
        have tt := tup_to (W4.map sE) k
        have sq : seqF false (.tup ((W4.map sE).take k)) = some (.ok ((W4.map sE).take k)) := rfl
        have s4w : W4.length ≤ sizeLine := s4
        rw [List.map_take] at key
        have l1 : l_law_1.f [some scr, some (shapeE ps), some (.lst (ws.map sE)), some (sE u), none, none] = some (.nx [some scr, some (shapeE ps), some (.lst (ws.map sE)), some (sE u'), none, none]) := by
          have : (XI.seq false (.sl false (.tup (.cons (.kS "w") (.cons (.kS "xw") (.cons (.kS "yxw") (.cons (.kS "zyxw") .nil))))) .no (.e (.iop IOp.mod (.call pf__law_cell_at (.cons false (.var 0) (.cons false (.kI 3) .nil))) (.kI 5))))).f [some scr, some (shapeE ps), some (.lst (ws.map sE)), some (sE u), none, none] = some (.ok ((W4.map sE).take k)) := by
            generalize shapeE ps = SH at *
            generalize ws.map sE = WS at *
            generalize sE u = U at *
            simp [s4, s4w, f3, mk, W4_D, tt, sq]
          simp only [l_law_1, for_f, this, bSI_ok]
          exact key
        generalize shapeE ps = SH at *
        generalize ws.map sE = WS at *
        generalize sE u = U at *
        generalize sE u' = U' at *
        subst p1
        simp [t_law_4, f0, d57, m5, l1]
      · exact ho.elim
    · refine ⟨u, ⟨su.low, by have := su.le; omega⟩, ?_⟩
      have p1' : ¬ (p : Int) = 1 := by omega
      generalize shapeE ps = SH at *
      generalize ws.map sE = WS at *
      generalize sE u = U at *
      simp [t_law_4, f0, d57, m5, p1, p1']
  obtain ⟨u', cu, go4⟩ := four
  rw [go4]
  have five : ∃ d, (∃ du, pf__law_due_of.F [d] = some (.ok du) ∧ pf__law_told_by.F [d] = some (.ok du) ∧ Rf 3 du) ∧ t_law_5.f [some scr, some (shapeE ps), some (.lst (ws.map sE)), some (sE u'), none, none] = t_law_6.f [some scr, some (shapeE ps), some (.lst (ws.map sE)), some d, none, none] := by
    by_cases q2 : q = 2
    · have no : ∀ d, isiD .str d = some false → ∃ du, pf__law_due_of.F [d] = some (.ok du) ∧ pf__law_told_by.F [d] = some (.ok du) ∧ Rf 3 du := fun d hd => ⟨txD, (F_noText hd).1, (F_noText hd).2, rf_tx⟩
      have s1 : 1 ≤ sizeLine := by decide
      have s5 : 5 ≤ sizeLine := by decide
      subst q2
      generalize shapeE ps = SH at *
      generalize ws.map sE = WS at *
      generalize sE u' = U at *
      rcases (by omega : k = 0 ∨ k = 1 ∨ k = 2 ∨ k = 3 ∨ k = 4) with rfl | rfl | rfl | rfl | rfl
      · exact ⟨.non, no _ rfl, by simp [t_law_5, f0, d57, m10, f3, mk, s1, s5, atI, ixN]⟩
      · exact ⟨.int 7, no _ rfl, by simp [t_law_5, f0, d57, m10, f3, mk, s1, s5, atI, ixN]⟩
      · exact ⟨.lst [.str "p"], no _ rfl, by simp [t_law_5, f0, d57, m10, f3, mk, s1, s5, atI, ixN]⟩
      · exact ⟨.tup [.str "p"], no _ rfl, by simp [t_law_5, f0, d57, m10, f3, mk, s1, s5, atI, ixN]⟩
      · exact ⟨.dct [], no _ rfl, by simp [t_law_5, f0, d57, m10, f3, mk, s1, s5, atI, ixN]⟩
    · have q2' : ¬ (q : Int) = 2 := by omega
      refine ⟨sE u', ⟨dueW u', F_due_of cu, F_told_by cu, rf_due cu⟩, ?_⟩
      generalize shapeE ps = SH at *
      generalize ws.map sE = WS at *
      generalize sE u' = U at *
      simp [t_law_5, f0, d57, m10, q2, q2']
  obtain ⟨d, ⟨du, g1, g2, g3⟩, go5⟩ := five
  rw [go5]
  have eqd := eqF_rf g3 (by decide) false
  generalize shapeE ps = SH at *
  generalize ws.map sE = WS at *
  simp [t_law_6, t_law_7, g1, g2, eqd]
end DLP
open PySem PySem.W PyProof.Rows
set_option maxRecDepth 100000 in
set_option maxHeartbeats 0 in
theorem PySem.Challenge.cw_holebook_k08_what_a_text_tells_holds : PySem.Challenge.rw_holebook_k08_what_a_text_tells.Holds := by
  w_on; o_law; k_head; (case hw => w_witness2)
  k_fill
  refine L2.walk_ofB (l := PySem.Challenge.rw_holebook_k08_what_a_text_tells) (n := 63) (k := 8) (x := "_law_script") (CX := fun _ => L2.CX0) (sp := fun w => fun vs H Q _ => DL.spP (DLP.cmX _) DLP.pf_law vs H Q fun _ _ _ => False) rfl (by decide) rfl ⟨rfl, by decide, by decide⟩ (fun w h Y => PySem.W.kIn_of Y) ?F (fun w H a ns hl hb hO hS => DL.law_end hl hO hS rfl (DLP.law_true ns hl hb)) (fun _ _ _ _ _ h => h)
  case F =>
    intro w mg fa h KX G hmg
    refine' DLP.all_mk KX G hmg ?a0 ?l0 ?c0 ?k0 ?a1 ?l1 ?c1 ?k1 ?a2 ?l2 ?c2 ?k2 ?a3 ?l3 ?c3 ?k3 ?a4 ?l4 ?c4 ?k4 ?a5 ?l5 ?c5 ?k5 ?a6 ?l6 ?c6 ?k6 ?a7 ?l7 ?c7 ?k7 ?a8 ?l8 ?c8 ?k8 ?a9 ?l9 ?c9 ?k9 ?a10 ?l10 ?c10 ?k10 ?a11 ?l11 ?c11 ?k11 ?a12 ?l12 ?c12 ?k12 ?a13 ?l13 ?c13 ?k13 ?a14 ?l14 ?c14 ?k14 ?a15 ?l15 ?c15 ?k15 ?a16 ?l16 ?c16 ?k16 ?a17 ?l17 ?c17 ?k17 ?a18 ?l18 ?c18 ?k18 ?a19 ?l19 ?c19 ?k19 ?a20 ?l20 ?c20 ?k20 ?a21 ?l21 ?c21 ?k21 ?a22 ?l22 ?c22 ?k22 ?a23 ?l23 ?c23 ?k23 ?a24 ?l24 ?c24 ?k24 ?a25 ?l25 ?c25 ?k25 ?a26 ?l26 ?c26 ?k26 ?z_ValueError ?z_bool ?z_int ?z_isinstance ?z_len ?z_list ?z_max ?z_range ?z_str ?z_tuple ?z_MOST ?z_LETTERS ?x0 ?nc_NoPiece ?ni_NoPiece ?li_NoPiece ?ci_NoPiece ?ki_NoPiece ?xo_NoPiece
    (case a0 => k_is); (case l0 => k_is); (case c0 => k_is); (case k0 => k_is); (case a1 => k_is); (case l1 => k_is); (case c1 => k_is); (case k1 => k_is); (case a2 => k_is); (case l2 => k_is); (case c2 => k_is); (case k2 => k_is); (case a3 => k_is); (case l3 => k_is); (case c3 => k_is); (case k3 => k_is); (case a4 => k_is); (case l4 => k_is); (case c4 => k_is); (case k4 => k_is); (case a5 => k_is); (case l5 => k_is); (case c5 => k_is); (case k5 => k_is); (case a6 => k_is); (case l6 => k_is); (case c6 => k_is); (case k6 => k_is); (case a7 => k_is); (case l7 => k_is); (case c7 => k_is); (case k7 => k_is); (case a8 => k_is); (case l8 => k_is); (case c8 => k_is); (case k8 => k_is); (case a9 => k_is); (case l9 => k_is); (case c9 => k_is); (case k9 => k_is); (case a10 => k_is); (case l10 => k_is); (case c10 => k_is); (case k10 => k_is); (case a11 => k_is); (case l11 => k_is); (case c11 => k_is); (case k11 => k_is); (case a12 => k_is); (case l12 => k_is); (case c12 => k_is); (case k12 => k_is); (case a13 => k_is); (case l13 => k_is); (case c13 => k_is); (case k13 => k_is); (case a14 => k_is); (case l14 => k_is); (case c14 => k_is); (case k14 => k_is); (case a15 => k_is); (case l15 => k_is); (case c15 => k_is); (case k15 => k_is); (case a16 => k_is); (case l16 => k_is); (case c16 => k_is); (case k16 => k_is); (case a17 => k_is); (case l17 => k_is); (case c17 => k_is); (case k17 => k_is); (case a18 => k_is); (case l18 => k_is); (case c18 => k_is); (case k18 => k_is); (case a19 => k_is); (case l19 => k_is); (case c19 => k_is); (case k19 => k_is); (case a20 => k_is); (case l20 => k_is); (case c20 => k_is); (case k20 => k_is); (case a21 => k_is); (case l21 => k_is); (case c21 => k_is); (case k21 => k_is); (case a22 => k_is); (case l22 => k_is); (case c22 => k_is); (case k22 => k_is); (case a23 => k_is); (case l23 => k_is); (case c23 => k_is); (case k23 => k_is); (case a24 => k_is); (case l24 => k_is); (case c24 => k_is); (case k24 => k_is); (case a25 => k_is); (case l25 => k_is); (case c25 => k_is); (case k25 => k_is); (case a26 => k_is); (case l26 => k_is); (case c26 => k_is); (case k26 => k_is); (case z_ValueError => k_is); (case z_bool => k_is); (case z_int => k_is); (case z_isinstance => k_is); (case z_len => k_is); (case z_list => k_is); (case z_max => k_is); (case z_range => k_is); (case z_str => k_is); (case z_tuple => k_is); (case z_MOST => k_is); (case z_LETTERS => k_is); (case x0 => kernel_rfl); (case nc_NoPiece => k_is); (case ni_NoPiece => k_is); (case li_NoPiece => k_is); (case ci_NoPiece => k_is); (case ki_NoPiece => k_is); (case xo_NoPiece => kernel_rfl)
#print axioms PySem.Challenge.cw_holebook_k08_what_a_text_tells_holds


