import PyProof.Rows.All
import Wide.All
import OpenK.AllK
import Wide.FinOn
import HandS.ForMost
import HandS.Flow
import HandS.Wide
import HandS.IsInst
import HandS.Walk
import HandS.Zip
import HandS.Conv
import HandS.TupMul
import HandS.TupAny
import HandS.Style
import HandS.TupLe
import KE.GoesMore
import KE.GoesEnum
import HandS.Strs
import PySem.Challenge.RW_greatsums_k80_whole_lots_as_products
set_option Elab.async false
set_option linter.all false
set_option maxRecDepth 100000
set_option maxHeartbeats 2000000
/-! FL: a functional layer over HandS: data D, environments, judgements whose readings are functions -/
noncomputable section
namespace FL
open PySem PySem.Spec PyProof.Rows L2

/-- data: what a value stands for -/
inductive D where
  | non | bl (b : Bool) | int (i : Int) | str (x : Str) | tup (l : List D) | lst (l : List D) | tape
deriving Inhabited

structure Tape where
  cells : List Int
  seed : Int

abbrev TP := Option (Addr × Addr)
def tpl : TP → List Addr
  | none => []
  | some (a, c) => [a, c]
def TapeAt (tp : TP) (H : Hp) (t : Tape) : Prop :=
  ∀ a c, tp = some (a, c) → a ≠ c ∧ H a = some (.lst [.ref c, .int t.seed]) ∧ H c = some (.lst (t.cells.map V.int))
def hid (O : List Addr) (H : Hp) : Hp := fun b => if b ∈ O then none else H b
theorem hid_some {O : List Addr} {H : Hp} {b : Addr} {o : HO} (h : hid O H b = some o) : b ∉ O ∧ H b = some o := by
  unfold hid at h
  split at h
  · cases h
  · rename_i q; exact ⟨q, h⟩
theorem hid_of {O : List Addr} {H : Hp} {b : Addr} {o : HO} (h : b ∉ O) (e : H b = some o) : hid O H b = some o := by
  unfold hid; rw [if_neg h]; exact e
theorem hid_sub {O : List Addr} {H : Hp} : Same (hid O H) H := fun _ _ h => (hid_some h).2
theorem hid_nil {H : Hp} : hid [] H = H := by funext b; simp [hid]
/-- all but the tape is as it was -/
def SameX (tp : TP) (H H' : Hp) : Prop := ∀ b o, H b = some o → b ∉ tpl tp → H' b = some o
theorem SameX.refl {tp : TP} {H : Hp} : SameX tp H H := fun _ _ h _ => h
theorem SameX.trans {tp : TP} {H H1 H2 : Hp} (a : SameX tp H H1) (b : SameX tp H1 H2) : SameX tp H H2 := fun c o h n => b c o (a c o h n) n
theorem SameX.of {tp : TP} {H H' : Hp} (s : Same H H') : SameX tp H H' := fun b o h _ => s b o h
theorem SameX.new {tp : TP} {H : Hp} {p : Addr} {o : HO} (n : H p = none) : SameX tp H (upd H p o) := fun b u h _ => by
  rw [upd_ne (ne_of_none h n)]; exact h
theorem same_new {H : Hp} {p : Addr} {o : HO} (n : H p = none) : Same H (upd H p o) := fun b u h => by
  rw [upd_ne (ne_of_none h n)]; exact h
theorem Same.seqT {K : PySem.W.Frag} {H H' : Hp} {a : Addr} {xs : List V} (e : Same H H') (h : SqT K H a xs) : SqT K H' a xs := by
  rcases h with (h | ⟨o, h⟩) | h
  · exact .inl (.inl (e _ _ h))
  · exact .inl (.inr ⟨o, e _ _ h⟩)
  · exact .inr h

/-- the value v stands for d, all of it to be read in H -/
inductive Rp (K : PySem.W.Frag) (tp : TP) (H : Hp) : V → D → Prop
  | non : Rp K tp H .non .non
  | bl (b : Bool) : Rp K tp H (.bl b) (.bl b)
  | int (i : Int) : Rp K tp H (.int i) (.int i)
  | str (x : Str) : Rp K tp H (.str x) (.str x)
  | tup {a : Addr} {xs : List V} {ds : List D} : SqT K H a xs → xs.length = ds.length → (∀ (i : Nat) (v : V) (d : D), xs[i]? = some v → ds[i]? = some d → Rp K tp H v d) → Rp K tp H (.ref a) (.tup ds)
  | lst {a : Addr} {xs : List V} {ds : List D} : H a = some (.lst xs) → xs.length = ds.length → (∀ (i : Nat) (v : V) (d : D), xs[i]? = some v → ds[i]? = some d → Rp K tp H v d) → Rp K tp H (.ref a) (.lst ds)
  | tape {a c : Addr} : tp = some (a, c) → Rp K tp H (.ref a) .tape
section
variable {K : PySem.W.Frag} {tp : TP} {H H' : Hp} {v : V} {d : D}
theorem Rp.mono (s : Same H H') (h : Rp K tp H v d) : Rp K tp H' v d := by
  induction h with
  | non => exact .non
  | bl b => exact .bl b
  | int i => exact .int i
  | str x => exact .str x
  | tup q l _ ih => exact .tup (Same.seqT s q) l ih
  | lst q l _ ih => exact .lst (s _ _ q) l ih
  | tape e => exact .tape e
/-- a scalar's value is its own -/
def D.sc : D → Option V
  | .non => some .non
  | .bl b => some (.bl b)
  | .int i => some (.int i)
  | .str x => some (.str x)
  | _ => none
theorem Rp.of_sc (h : d.sc = some v) : Rp K tp H v d := by
  cases d <;> simp [D.sc] at h <;> subst h
  · exact .non
  · exact .bl _
  · exact .int _
  · exact .str _
theorem Rp.int_inv {i : Int} (h : Rp K tp H v (.int i)) : v = .int i := by cases h; rfl
theorem Rp.bl_inv {i : Bool} (h : Rp K tp H v (.bl i)) : v = .bl i := by cases h; rfl
theorem Rp.non_inv (h : Rp K tp H v .non) : v = .non := by cases h; rfl
theorem Rp.str_inv {i : Str} (h : Rp K tp H v (.str i)) : v = .str i := by cases h; rfl
theorem Rp.tup_inv {ds : List D} (h : Rp K tp H v (.tup ds)) : ∃ a xs, v = .ref a ∧ SqT K H a xs ∧ xs.length = ds.length ∧ ∀ (i : Nat) (v : V) (d : D), xs[i]? = some v → ds[i]? = some d → Rp K tp H v d := by
  cases h with
  | tup q l r => exact ⟨_, _, rfl, q, l, r⟩
theorem Rp.lst_inv {ds : List D} (h : Rp K tp H v (.lst ds)) : ∃ a xs, v = .ref a ∧ H a = some (.lst xs) ∧ xs.length = ds.length ∧ ∀ (i : Nat) (v : V) (d : D), xs[i]? = some v → ds[i]? = some d → Rp K tp H v d := by
  cases h with
  | lst q l r => exact ⟨_, _, rfl, q, l, r⟩
end
/-- lists of values -/
def RpL (K : PySem.W.Frag) (tp : TP) (H : Hp) (xs : List V) (ds : List D) : Prop := xs.length = ds.length ∧ ∀ (i : Nat) (v : V) (d : D), xs[i]? = some v → ds[i]? = some d → Rp K tp H v d
section
variable {K : PySem.W.Frag} {tp : TP} {H H' : Hp} {v : V} {d : D} {xs ys : List V} {ds es : List D}
theorem RpL.nil : RpL K tp H [] [] := ⟨rfl, fun i v d e => by simp at e⟩
theorem RpL.cons (a : Rp K tp H v d) (r : RpL K tp H xs ds) : RpL K tp H (v :: xs) (d :: ds) := ⟨by simp [r.1], fun i u e h1 h2 => by
  cases i with
  | zero => simp at h1 h2; subst h1; subst h2; exact a
  | succ i => exact r.2 i u e (by simpa using h1) (by simpa using h2)⟩
theorem RpL.head (r : RpL K tp H (v :: xs) (d :: ds)) : Rp K tp H v d := r.2 0 v d rfl rfl
theorem RpL.tail (r : RpL K tp H (v :: xs) (d :: ds)) : RpL K tp H xs ds := ⟨by have := r.1; simpa using this, fun i u e h1 h2 => r.2 (i + 1) u e (by simpa using h1) (by simpa using h2)⟩
theorem RpL.mono (s : Same H H') (r : RpL K tp H xs ds) : RpL K tp H' xs ds := ⟨r.1, fun i v d h1 h2 => (r.2 i v d h1 h2).mono s⟩
theorem RpL.append (r : RpL K tp H xs ds) (q : RpL K tp H ys es) : RpL K tp H (xs ++ ys) (ds ++ es) := by
  refine ⟨by simp [r.1, q.1], fun i v d h1 h2 => ?_⟩
  by_cases hi : i < xs.length
  · rw [List.getElem?_append_left hi] at h1
    rw [List.getElem?_append_left (by rw [← r.1]; exact hi)] at h2
    exact r.2 i v d h1 h2
  · rw [List.getElem?_append_right (by omega)] at h1
    rw [List.getElem?_append_right (by rw [← r.1]; omega), ← r.1] at h2
    exact q.2 _ v d h1 h2
theorem RpL.one (a : Rp K tp H v d) : RpL K tp H [v] [d] := .cons a .nil
theorem RpL.drop (n : Nat) (r : RpL K tp H xs ds) : RpL K tp H (xs.drop n) (ds.drop n) := ⟨by simp [r.1], fun i v d h1 h2 => by
  rw [List.getElem?_drop] at h1 h2
  exact r.2 _ v d h1 h2⟩
theorem RpL.take (n : Nat) (r : RpL K tp H xs ds) : RpL K tp H (xs.take n) (ds.take n) := ⟨by simp [r.1], fun i v d h1 h2 => by
  rw [List.getElem?_take] at h1 h2
  split at h1
  · rename_i q; rw [if_pos q] at h2; exact r.2 _ v d h1 h2
  · cases h1⟩
theorem RpL.get {i : Nat} (r : RpL K tp H xs ds) (h : ds[i]? = some d) : ∃ v, xs[i]? = some v ∧ Rp K tp H v d := by
  have hi : i < xs.length := by rw [r.1]; exact (List.getElem?_eq_some_iff.mp h).1
  exact ⟨xs[i], List.getElem?_eq_getElem hi, r.2 i _ d (List.getElem?_eq_getElem hi) h⟩
theorem Rp.tupL (h : Rp K tp H v (.tup ds)) : ∃ a xs, v = .ref a ∧ SqT K H a xs ∧ RpL K tp H xs ds := let ⟨a, xs, e, q, l, r⟩ := h.tup_inv; ⟨a, xs, e, q, l, r⟩
theorem Rp.lstL (h : Rp K tp H v (.lst ds)) : ∃ a xs, v = .ref a ∧ H a = some (.lst xs) ∧ RpL K tp H xs ds := let ⟨a, xs, e, q, l, r⟩ := h.lst_inv; ⟨a, xs, e, q, l, r⟩
theorem Rp.tupM {a : Addr} (q : SqT K H a xs) (r : RpL K tp H xs ds) : Rp K tp H (.ref a) (.tup ds) := .tup q r.1 r.2
theorem Rp.lstM {a : Addr} (q : H a = some (.lst xs)) (r : RpL K tp H xs ds) : Rp K tp H (.ref a) (.lst ds) := .lst q r.1 r.2
end

/-- no list within -/
inductive NoL : D → Prop
  | non : NoL .non
  | bl (b : Bool) : NoL (.bl b)
  | int (i : Int) : NoL (.int i)
  | str (x : Str) : NoL (.str x)
  | tup {ds : List D} : (∀ d ∈ ds, NoL d) → NoL (.tup ds)
  | tape : NoL .tape
/-- what stands without lists stands in all that holds the tuples -/
theorem Rp.noL {K : PySem.W.Frag} {tp : TP} {H : Hp} {v : V} {d : D} {O : List Addr} (n : NoL d) (h : Rp K tp H v d) (hO : ∀ a ∈ O, ∃ xs, H a = some (.lst xs)) : Rp K tp (hid O H) v d := by
  induction n generalizing v with
  | non => cases h; exact .non
  | bl b => cases h; exact .bl b
  | int i => cases h; exact .int i
  | str x => cases h; exact .str x
  | tape => cases h with | tape e => exact .tape e
  | tup _ ih =>
    cases h with
    | tup q l r =>
      refine .tup ?_ l fun i v d h1 h2 => ih d (List.mem_of_getElem? h2) (r i v d h1 h2)
      rcases q with (q | ⟨o, q⟩) | q
      · refine .inl (.inl (hid_of (fun hm => ?_) q))
        obtain ⟨xs, e⟩ := hO _ hm
        rw [q] at e; cases e
      · refine .inl (.inr ⟨o, hid_of (fun hm => ?_) q⟩)
        obtain ⟨xs, e⟩ := hO _ hm
        rw [q] at e; cases e
      · exact .inr q

/-- level 0: to be read in Hf; level n + 1: a list of ours at a, its items of level n; F: what is ours -/
def OwnN (K : PySem.W.Frag) (tp : TP) : Nat → Hp → Hp → V → D → List Addr → Prop
  | 0, Hf, _, v, d, F => Rp K tp Hf v d ∧ F = []
  | n + 1, Hf, H, v, d, F => ∃ (a : Addr) (xs : List V) (ds : List D) (Fs : List (List Addr)), v = .ref a ∧ d = .lst ds ∧ H a = some (.lst xs) ∧ xs.length = ds.length ∧ Fs.length = ds.length ∧ F = a :: Fs.flatten ∧
      ∀ (i : Nat) (v : V) (d : D) (Fi : List Addr), xs[i]? = some v → ds[i]? = some d → Fs[i]? = some Fi → OwnN K tp n Hf H v d Fi
section
variable {K : PySem.W.Frag} {tp : TP} {n : Nat} {Hf Hf' H H' : Hp} {v : V} {d : D} {F : List Addr}
theorem OwnN.mono (s : Same Hf Hf') (k : ∀ b o, b ∈ F → H b = some o → H' b = some o) (h : OwnN K tp n Hf H v d F) : OwnN K tp n Hf' H' v d F := by
  induction n generalizing v d F with
  | zero => exact ⟨h.1.mono s, h.2⟩
  | succ n ih =>
    obtain ⟨a, xs, ds, Fs, e1, e2, ha, l1, l2, eF, r⟩ := h
    subst eF
    refine ⟨a, xs, ds, Fs, e1, e2, k a _ List.mem_cons_self ha, l1, l2, rfl, fun i v d Fi h1 h2 h3 => ih (fun b o hb e => k b o (List.mem_cons_of_mem _ (List.mem_flatten.mpr ⟨Fi, List.mem_of_getElem? h3, hb⟩)) e) (r i v d Fi h1 h2 h3)⟩
theorem OwnN.lists (h : OwnN K tp n Hf H v d F) : ∀ a ∈ F, ∃ xs, H a = some (.lst xs) := by
  induction n generalizing v d F with
  | zero => obtain ⟨_, rfl⟩ := h; intro a ha; cases ha
  | succ n ih =>
    obtain ⟨a, xs, ds, Fs, e1, e2, ha, l1, l2, eF, r⟩ := h
    subst eF
    intro b hb
    rcases List.mem_cons.mp hb with e | hb
    · subst e; exact ⟨_, ha⟩
    · obtain ⟨Fi, hF, hb⟩ := List.mem_flatten.mp hb
      obtain ⟨i, hi, e⟩ := List.mem_iff_getElem.mp hF
      have hx : i < xs.length := by omega
      have hd : i < ds.length := by omega
      exact ih (r i xs[i] ds[i] Fi (List.getElem?_eq_getElem hx) (List.getElem?_eq_getElem hd) (by rw [List.getElem?_eq_getElem hi, e])) b hb
/-- ours is to be read in all of the heap -/
theorem OwnN.rp (s : Same Hf H) (h : OwnN K tp n Hf H v d F) : Rp K tp H v d := by
  induction n generalizing v d F with
  | zero => exact h.1.mono s
  | succ n ih =>
    obtain ⟨a, xs, ds, Fs, e1, e2, ha, l1, l2, eF, r⟩ := h
    subst e1 e2
    refine .lst ha l1 fun i v d h1 h2 => ?_
    have hi : i < Fs.length := by rw [l2]; exact (List.getElem?_eq_some_iff.mp h2).1
    exact ih (r i v d _ h1 h2 (List.getElem?_eq_getElem hi))
end
/-- ours, read where it and what was frozen stand -/
theorem OwnN.rpIn {K : PySem.W.Frag} {tp : TP} {n : Nat} {Hf H Hx : Hp} {v : V} {d : D} {F : List Addr} (h : OwnN K tp n Hf H v d F) (s : Same Hf Hx) (k : ∀ b o, b ∈ F → H b = some o → Hx b = some o) : Rp K tp Hx v d := by
  have h' : OwnN K tp n Hx Hx v d F := h.mono s k
  exact h'.rp (Same.refl _)
end FL
set_option maxRecDepth 100000
set_option maxHeartbeats 2000000
noncomputable section
namespace FL
open PySem PySem.Spec PyProof.Rows L2

abbrev Env := List (Option D)
abbrev EM := Env → Tape → Option (D × Tape)
abbrev AM := Env → Tape → Option (List D × Tape)
abbrev BM := Env → Tape → Option (Bool × Tape)
/-- how a value is held: to be read now; ours by levels -/
inductive Kd where
  | b | o (n : Nat) | w (n : Nat) | l

/-- what is ours: by slots, and more of ours (what is made just now) -/
structure Ow where
  e : List Addr
  s : List (List Addr)
def ours (tp : TP) (Fs : Ow) : List Addr := (Fs.e ++ Fs.s.flatten) ++ tpl tp
/-- the state stands for the environment -/
structure RelF (K : PySem.W.Frag) (tp : TP) (B : Hp) (fl : List Nat) (Fs : Ow) (H : Hp) (σ : L2.St) (ρ : Env) (t : Tape) : Prop where
  l1 : fl.length = σ.length
  l2 : ρ.length = σ.length
  l3 : Fs.s.length = σ.length
  nd : (ours tp Fs).Nodup
  tape : TapeAt tp H t
  base : Same B (hid (ours tp Fs) H)
  lists : ∀ a ∈ Fs.e ++ Fs.s.flatten, ∃ xs, H a = some (.lst xs)
  z : ∀ (i : Nat) (F : List Addr), fl[i]? = some 0 → Fs.s[i]? = some F → F = []
  slot : ∀ (i n : Nat) (d : D) (F : List Addr), fl[i]? = some n → ρ[i]? = some (some d) → Fs.s[i]? = some F → ∃ v, σ[i]? = some (some v) ∧ OwnN K tp n (hid (ours tp Fs) H) H v d F

section
variable {K : PySem.W.Frag} {tp : TP} {B H H' H1 H2 : Hp} {fl : List Nat} {Fs : Ow} {σ : L2.St} {ρ : Env} {t t' t1 t2 : Tape} {O : List Addr} {v : V} {d : D} {k : Kd}
theorem TapeAt.lists (h : TapeAt tp H t) : ∀ a ∈ tpl tp, ∃ xs, H a = some (.lst xs) := by
  intro a ha
  cases tp with
  | none => cases ha
  | some p =>
    obtain ⟨p, c⟩ := p
    obtain ⟨_, e1, e2⟩ := h p c rfl
    rcases List.mem_cons.mp ha with z | ha
    · subst z; exact ⟨_, e1⟩
    · rcases List.mem_cons.mp ha with z | ha
      · subst z; exact ⟨_, e2⟩
      · cases ha
theorem RelF.alls (r : RelF K tp B fl Fs H σ ρ t) : ∀ a ∈ ours tp Fs, ∃ xs, H a = some (.lst xs) := fun a ha =>
  (List.mem_append.mp ha).elim (r.lists a) (r.tape.lists a)
theorem RelF.tsub (a : Addr) (h : a ∈ tpl tp) : a ∈ ours tp Fs := List.mem_append_right _ h

/-- O: ours and the tape's, all of them lists of H -/
structure Ok (tp : TP) (O : List Addr) (H : Hp) : Prop where
  ts : ∀ a ∈ tpl tp, a ∈ O
  ls : ∀ a ∈ O, ∃ xs, H a = some (.lst xs)
theorem RelF.ok (r : RelF K tp B fl Fs H σ ρ t) : Ok tp (ours tp Fs) H := ⟨fun a h => RelF.tsub a h, r.alls⟩
/-- frozen, or a list whose items are frozen -/
def Lv (K : PySem.W.Frag) (tp : TP) (O : List Addr) (H : Hp) (v : V) (d : D) : Prop :=
  Rp K tp (hid O H) v d ∨ ∃ (ds : List D) (a : Addr) (xs : List V), d = .lst ds ∧ v = .ref a ∧ a ∉ tpl tp ∧ H a = some (.lst xs) ∧ RpL K tp (hid O H) xs ds
/-- what a value is as it comes -/
def RVal (K : PySem.W.Frag) (tp : TP) (O : List Addr) (H : Hp) (k : Kd) (d : D) (v : V) (H' : Hp) : Prop :=
  match k with
  | .b => Rp K tp (hid (tpl tp) H') v d
  | .o n => ∃ F : List Addr, F.Nodup ∧ (∀ a ∈ F, H a = none) ∧ OwnN K tp n (hid (F ++ O) H') H' v d F
  | .w n => ∃ F : List Addr, F.Nodup ∧ (∀ a ∈ F, a ∈ O ∧ a ∉ tpl tp) ∧ OwnN K tp n (hid O H') H' v d F
  | .l => Lv K tp O H' v d
structure Res (K : PySem.W.Frag) (tp : TP) (O : List Addr) (H : Hp) (k : Kd) (d : D) (t' : Tape) (v : V) (H' : Hp) : Prop where
  same : SameX tp H H'
  tape : TapeAt tp H' t'
  val : RVal K tp O H k d v H'
/-- the same lists, later -/
theorem Ok.step (o : Ok tp O H) (s : SameX tp H H') (ta : TapeAt tp H' t') : Ok tp O H' := ⟨o.ts, fun a ha => by
  by_cases h : a ∈ tpl tp
  · exact ta.lists a h
  · obtain ⟨xs, e⟩ := o.ls a ha
    exact ⟨xs, s a _ e h⟩⟩
theorem Ok.new (o : Ok tp O H) {a : Addr} (h : H a = none) : a ∉ O := fun ha => by
  obtain ⟨xs, e⟩ := o.ls a ha
  rw [h] at e; cases e
theorem hid_step (o : Ok tp O H) (s : SameX tp H H') : Same (hid O H) (hid O H') := fun b u h => by
  obtain ⟨h1, h2⟩ := hid_some h
  exact hid_of h1 (s b u h2 fun z => h1 (o.ts b z))
theorem hidT_step (s : SameX tp H H') : Same (hid (tpl tp) H) (hid (tpl tp) H') := fun b u h => by
  obtain ⟨h1, h2⟩ := hid_some h
  exact hid_of h1 (s b u h2 h1)
theorem RelF.step (r : RelF K tp B fl Fs H σ ρ t) (s : SameX tp H H') (ta : TapeAt tp H' t') : RelF K tp B fl Fs H' σ ρ t' where
  l1 := r.l1
  l2 := r.l2
  l3 := r.l3
  nd := r.nd
  tape := ta
  base := fun b u h => hid_step r.ok s b u (r.base b u h)
  lists := fun a ha => (r.ok.step s ta).ls a (List.mem_append_left _ ha)
  z := r.z
  slot := fun i n d F h1 h2 h3 => by
    obtain ⟨v, e, o⟩ := r.slot i n d F h1 h2 h3
    refine ⟨v, e, o.mono (hid_step r.ok s) fun b u hb hu => s b u hu fun z => ?_⟩
    have hb' : b ∈ Fs.e ++ Fs.s.flatten := List.mem_append_right _ (List.mem_flatten.mpr ⟨F, List.mem_of_getElem? h3, hb⟩)
    exact (List.nodup_append.mp r.nd).2.2 b hb' b z rfl
/-- back: what is new later was new before -/
theorem SameX.back (s : SameX tp H H') (ta : TapeAt tp H' t') {a : Addr} (h : H' a = none) : H a = none := by
  cases e : H a with
  | none => rfl
  | some o =>
    by_cases z : a ∈ tpl tp
    · obtain ⟨xs, q⟩ := ta.lists a z
      rw [h] at q; cases q
    · have q := s a o e z
      rw [h] at q; cases q
theorem Res.trans (s : SameX tp H H1) (ta : TapeAt tp H1 t1) (r : Res K tp O H1 k d t' v H') : Res K tp O H k d t' v H' := by
  refine ⟨s.trans r.same, r.tape, ?_⟩
  have q := r.val
  cases k with
  | b => exact q
  | o n =>
    obtain ⟨F, nd, hF, ow⟩ := q
    exact ⟨F, nd, fun a ha => s.back ta (hF a ha), ow⟩
  | w n => exact q
  | l => exact q
/-- where an operand is to be read -/
def In (K : PySem.W.Frag) (tp : TP) (O : List Addr) (H : Hp) (k : Kd) (v : V) (d : D) : Prop :=
  match k with
  | .b => Rp K tp (hid (tpl tp) H) v d
  | .o _ => Rp K tp (hid O H) v d
  | .w _ => Rp K tp (hid (tpl tp) H) v d
  | .l => Lv K tp O H v d
theorem Lv.step (o : Ok tp O H) (s : SameX tp H H') (h : Lv K tp O H v d) : Lv K tp O H' v d := by
  rcases h with h | ⟨ds, a, xs, e1, e2, nt, e, r⟩
  · exact .inl (h.mono (hid_step o s))
  · exact .inr ⟨ds, a, xs, e1, e2, nt, s a _ e nt, r.mono (hid_step o s)⟩
theorem Lv.lst {ds : List D} (h : Lv K tp O H v (.lst ds)) : ∃ a xs, v = .ref a ∧ H a = some (.lst xs) ∧ RpL K tp (hid O H) xs ds := by
  rcases h with h | ⟨ds', a, xs, e1, e2, nt, e, r⟩
  · obtain ⟨a, xs, e, q, r⟩ := h.lstL
    exact ⟨a, xs, e, (hid_some q).2, r⟩
  · cases e1; exact ⟨a, xs, e2, e, r⟩
theorem Lv.tup {ds : List D} (h : Lv K tp O H v (.tup ds)) : Rp K tp (hid O H) v (.tup ds) := by
  rcases h with h | ⟨ds', a, xs, e1, _⟩
  · exact h
  · cases e1
theorem Lv.brw (o : Ok tp O H) (h : Lv K tp O H v d) : Rp K tp (hid (tpl tp) H) v d := by
  have s : Same (hid O H) (hid (tpl tp) H) := fun b u q => by obtain ⟨h1, h2⟩ := hid_some q; exact hid_of (fun z => h1 (o.ts b z)) h2
  rcases h with h | ⟨ds, a, xs, e1, e2, nt, e, r⟩
  · exact h.mono s
  · subst e1 e2
    exact .lstM (hid_of nt e) (r.mono s)
theorem Lv.all (h : Lv K tp O H v d) : Rp K tp H v d := by
  rcases h with h | ⟨ds, a, xs, e1, e2, nt, e, r⟩
  · exact h.mono hid_sub
  · subst e1 e2
    exact .lstM e (r.mono hid_sub)
theorem In.step (o : Ok tp O H) (s : SameX tp H H') (h : In K tp O H k v d) : In K tp O H' k v d := by
  cases k with
  | b => exact Rp.mono (hidT_step s) h
  | o n => exact Rp.mono (hid_step o s) h
  | w n => exact Rp.mono (hidT_step s) h
  | l => exact Lv.step o s h
theorem In.all (h : In K tp O H k v d) : Rp K tp H v d := by
  cases k with
  | b => exact Rp.mono hid_sub h
  | o n => exact Rp.mono hid_sub h
  | w n => exact Rp.mono hid_sub h
  | l => exact Lv.all h
theorem In.brw (o : Ok tp O H) (h : In K tp O H k v d) : Rp K tp (hid (tpl tp) H) v d := by
  cases k with
  | b => exact h
  | o n => exact Rp.mono (fun b u q => by obtain ⟨h1, h2⟩ := hid_some q; exact hid_of (fun z => h1 (o.ts b z)) h2) h
  | w n => exact h
  | l => exact Lv.brw o h
theorem fresh_ne (ok : Ok tp O H) {F : List Addr} (hF : ∀ a ∈ F, H a = none) {a : Addr} (ha : a ∈ F) : a ∉ O := ok.new (hF a ha)
/-- frozen: what came as ours is to be read among the frozen -/
theorem Res.frz {n : Nat} (ok : Ok tp O H) (r : Res K tp O H (.o n) d t' v H') : Rp K tp (hid O H') v d := by
  obtain ⟨F, nd, hF, ow⟩ := r.val
  refine ow.rpIn (fun b u q => ?_) fun b u hb hu => hid_of (fresh_ne ok hF hb) hu
  obtain ⟨h1, h2⟩ := hid_some q
  exact hid_of (fun z => h1 (List.mem_append_right _ z)) h2
theorem Res.inn (ok : Ok tp O H) (r : Res K tp O H k d t' v H') : In K tp O H' k v d := by
  cases k with
  | b => exact r.val
  | o n => exact r.frz ok
  | w n =>
    obtain ⟨F, nd, hF, ow⟩ := r.val
    refine ow.rpIn (fun b u q => ?_) fun b u hb hu => hid_of (hF b hb).2 hu
    obtain ⟨h1, h2⟩ := hid_some q
    exact hid_of (fun z => h1 (ok.ts b z)) h2
  | l => exact r.val
theorem Res.zero (ok : Ok tp O H) {n : Nat} (r : Res K tp O H (.o n) d t' v H') : Res K tp O H (.o 0) d t' v H' :=
  ⟨r.same, r.tape, [], .nil, (fun a ha => nomatch ha), r.frz ok, rfl⟩
theorem Res.zeroW (ok : Ok tp O H) (r : Res K tp O H (.w 0) d t' v H') : Res K tp O H (.o 0) d t' v H' := by
  obtain ⟨F, nd, hF, ow⟩ := r.val
  exact ⟨r.same, r.tape, [], .nil, (fun a ha => nomatch ha), ow.1, rfl⟩
theorem own1 {Hf : Hp} {F : List Addr} (h : OwnN K tp 1 Hf H v d F) : ∃ (a : Addr) (xs : List V) (ds : List D), v = .ref a ∧ d = .lst ds ∧ H a = some (.lst xs) ∧ RpL K tp Hf xs ds ∧ F = [a] := by
  obtain ⟨a, xs, ds, Fs, e1, e2, ha, l1, l2, eF, r⟩ := h
  have fl : Fs.flatten = [] := by
    rw [List.flatten_eq_nil_iff]
    intro Fi hFi
    obtain ⟨i, hi, e⟩ := List.mem_iff_getElem.mp hFi
    exact (r i xs[i] ds[i] Fi (List.getElem?_eq_getElem (by omega)) (List.getElem?_eq_getElem (by omega)) (by rw [List.getElem?_eq_getElem hi, e])).2
  refine ⟨a, xs, ds, e1, e2, ha, ⟨l1, fun i v d h1 h2 => ?_⟩, by rw [eF, fl]⟩
  have hi : i < Fs.length := by rw [l2]; exact (List.getElem?_eq_some_iff.mp h2).1
  exact (r i v d _ h1 h2 (List.getElem?_eq_getElem hi)).1
theorem Res.l0 (r : Res K tp O H (.o 0) d t' v H') : Res K tp O H .l d t' v H' := ⟨r.same, r.tape, by
  obtain ⟨F, nd, hF, ow, rfl⟩ := r.val
  exact .inl ow⟩
theorem Res.l1 (ok : Ok tp O H) (r : Res K tp O H (.o 1) d t' v H') : Res K tp O H .l d t' v H' := ⟨r.same, r.tape, by
  obtain ⟨F, nd, hF, ow⟩ := r.val
  obtain ⟨a, xs, ds, rfl, rfl, ha, rl, rfl⟩ := own1 ow
  refine .inr ⟨ds, a, xs, rfl, rfl, fun z => ok.new (hF a (by simp)) (ok.ts a z), ha, rl.mono fun b u q => ?_⟩
  obtain ⟨q1, q2⟩ := hid_some q
  exact hid_of (fun z => q1 (List.mem_append_right _ z)) q2⟩
theorem Res.lw (ok : Ok tp O H) (r : Res K tp O H (.w 1) d t' v H') : Res K tp O H .l d t' v H' := ⟨r.same, r.tape, by
  obtain ⟨F, nd, hF, ow⟩ := r.val
  obtain ⟨a, xs, ds, rfl, rfl, ha, rl, rfl⟩ := own1 ow
  exact .inr ⟨ds, a, xs, rfl, rfl, (hF a (by simp)).2, ha, rl⟩⟩
theorem Res.brw (ok : Ok tp O H) (r : Res K tp O H k d t' v H') : Res K tp O H .b d t' v H' :=
  ⟨r.same, r.tape, (r.inn ok).brw (ok.step r.same r.tape)⟩
/-- a value that is to be read among the frozen -/
theorem Res.mk0 (s : SameX tp H H') (ta : TapeAt tp H' t') (h : Rp K tp (hid O H') v d) : Res K tp O H (.o 0) d t' v H' :=
  ⟨s, ta, [], .nil, (fun a ha => nomatch ha), h, rfl⟩
theorem Res.sc (ta : TapeAt tp H t) (h : d.sc = some v) : Res K tp O H (.o 0) d t v H := .mk0 .refl ta (.of_sc h)
theorem TapeAt.new {p : Addr} {o : HO} (ta : TapeAt tp H t) (n : H p = none) : TapeAt tp (upd H p o) t := fun a c e => by
  obtain ⟨h1, h2, h3⟩ := ta a c e
  exact ⟨h1, by rw [upd_ne (ne_of_none h2 n)]; exact h2, by rw [upd_ne (ne_of_none h3 n)]; exact h3⟩
theorem hid_new (ok : Ok tp O H) {p : Addr} {o : HO} (n : H p = none) : Same (hid O H) (hid O (upd H p o)) := hid_step ok (SameX.new n)
/-- a new tuple of frozen items -/
theorem Res.tupN {p : Addr} {xs : List V} {ds : List D} (ok : Ok tp O H) (ta : TapeAt tp H t) (n : H p = none) (r : RpL K tp (hid O H) xs ds) : Res K tp O H (.o 0) (.tup ds) t (.ref p) (upd H p (.tup xs)) :=
  .mk0 (.new n) (ta.new n) (.tupM (.inl (.inl (hid_of (ok.new n) upd_same))) (r.mono (hid_new ok n)))
/-- a new list of frozen items -/
theorem Res.lstN {p : Addr} {xs : List V} {ds : List D} (ok : Ok tp O H) (ta : TapeAt tp H t) (n : H p = none) (r : RpL K tp (hid O H) xs ds) : Res K tp O H (.o 1) (.lst ds) t (.ref p) (upd H p (.lst xs)) := by
  refine ⟨.new n, ta.new n, [p], by simp, fun a ha => by rw [List.mem_singleton.mp ha]; exact n, p, xs, ds, List.replicate ds.length [], rfl, rfl, upd_same, r.1, by simp, by simp, fun i v d Fi h1 h2 h3 => ?_⟩
  refine ⟨(r.2 i v d h1 h2).mono fun b u q => ?_, ?_⟩
  · obtain ⟨q1, q2⟩ := hid_some q
    refine hid_of (fun z => ?_) (by rw [upd_ne (ne_of_none q2 n)]; exact q2)
    rcases List.mem_append.mp z with z | z
    · rw [List.mem_singleton.mp z, n] at q2; cases q2
    · exact q1 z
  · rw [List.getElem?_replicate] at h3
    split at h3 <;> simp_all
end

/-! ### expressions -/
/-- what an expression gives -/
def tE (K : PySem.W.Frag) (tp : TP) (B : Hp) (fl : List Nat) (k : Kd) (m : EM) : TE := fun σ H Q => ∃ Fs ρ t d t', RelF K tp B fl Fs H σ ρ t ∧ m ρ t = some (d, t') ∧ ∀ v H', Res K tp (ours tp Fs) H k d t' v H' → Q v H'
def FE (X : Cx) (tp : TP) (B : Hp) (fl : List Nat) (e : Expr) (k : Kd) (m : EM) : Prop := PE X e (tE X.K tp B fl k m)
theorem PE.imp {X : Cx} {e : Expr} {t u : TE} (h : PE X e t) (i : ∀ σ H Q, u σ H Q → t σ H Q) : PE X e u := ⟨fun pins s σ H Q I q => h.run pins s σ H Q I (i σ H Q q)⟩
theorem PS.imp {X : Cx} {e : Stmt} {t u : TS} (h : PS X e t) (i : ∀ D σ H, u D σ H → t D σ H) : PS X e u := ⟨fun pins s σ H Q I q => h.run pins s σ H Q I (i Q σ H q)⟩
theorem PSs.imp {X : Cx} {e : List Stmt} {t u : TS} (h : PSs X e t) (i : ∀ D σ H, u D σ H → t D σ H) : PSs X e u := ⟨fun pins s σ H Q I q => h.run pins s σ H Q I (i Q σ H q)⟩
theorem PT.imp {X : Cx} {e : Expr} {t u : TT} (h : PT X e t) (i : ∀ σ H Q, u σ H Q → t σ H Q) : PT X e u := ⟨fun pins s σ H Q I q => h.run pins s σ H Q I (i σ H Q q)⟩
theorem PA.imp {X : Cx} {e : List Expr} {t u : TA} (h : PA X e t) (i : ∀ σ H Q, u σ H Q → t σ H Q) : PA X e u := ⟨fun pos pins s σ H Q I q => h.run pos pins s σ H Q I (i σ H Q q)⟩

section
variable {X : Cx} {tp : TP} {B : Hp} {fl : List Nat} {e a b : Expr} {k ka kb : Kd} {m ma mb : EM} {pos : Pos}
/-- weaken: ours to frozen, to borrowed -/
theorem FE.z {n : Nat} (h : FE X tp B fl e (.o n) m) : FE X tp B fl e (.o 0) m := PE.imp h fun σ H Q ⟨Fs, ρ, t, d, t', R, hm, q⟩ => ⟨Fs, ρ, t, d, t', R, hm, fun v H' r => q v H' (r.zero R.ok)⟩
theorem FE.zw (h : FE X tp B fl e (.w 0) m) : FE X tp B fl e (.o 0) m := PE.imp h fun σ H Q ⟨Fs, ρ, t, d, t', R, hm, q⟩ => ⟨Fs, ρ, t, d, t', R, hm, fun v H' r => q v H' (r.zeroW R.ok)⟩
theorem FE.l0 (h : FE X tp B fl e (.o 0) m) : FE X tp B fl e .l m := PE.imp h fun σ H Q ⟨Fs, ρ, t, d, t', R, hm, q⟩ => ⟨Fs, ρ, t, d, t', R, hm, fun v H' r => q v H' r.l0⟩
theorem FE.l1 (h : FE X tp B fl e (.o 1) m) : FE X tp B fl e .l m := PE.imp h fun σ H Q ⟨Fs, ρ, t, d, t', R, hm, q⟩ => ⟨Fs, ρ, t, d, t', R, hm, fun v H' r => q v H' (r.l1 R.ok)⟩
theorem FE.lw (h : FE X tp B fl e (.w 1) m) : FE X tp B fl e .l m := PE.imp h fun σ H Q ⟨Fs, ρ, t, d, t', R, hm, q⟩ => ⟨Fs, ρ, t, d, t', R, hm, fun v H' r => q v H' (r.lw R.ok)⟩
theorem FE.brw (h : FE X tp B fl e k m) : FE X tp B fl e .b m := PE.imp h fun σ H Q ⟨Fs, ρ, t, d, t', R, hm, q⟩ => ⟨Fs, ρ, t, d, t', R, hm, fun v H' r => q v H' (r.brw R.ok)⟩
/-- names -/
def mVar (i : Nat) : EM := fun ρ t => match ρ[i]? with
  | some (some d) => some (d, t)
  | _ => none
theorem mVar_some {i : Nat} {ρ : Env} {t t' : Tape} {d : D} (h : mVar i ρ t = some (d, t')) : ρ[i]? = some (some d) ∧ t' = t := by
  unfold mVar at h
  split at h
  · rename_i x e; cases h; exact ⟨e, rfl⟩
  · cases h
/-- a name, ours as it stands -/
theorem fe_varW (i : Nat) {n : Nat} {x : Str} (hf : fl[i]? = some n := by rfl) (hN : X.N[i]? = some x := by rfl) (hv : Vis X.env.scope x := by first | exact Or.inl rfl | exact Or.inr (Or.inl rfl) | exact Or.inr (Or.inr rfl)) (hd : (x == ("__debug__" : Str)) = false := by decide)
    (hcd : (x == ("__classdict__" : Str)) = false := by decide) : FE X tp B fl (.Name x pos) (.w n) (mVar i) := PE.imp (pe_var hN hv hd hcd) fun σ H Q ⟨Fs, ρ, t, d, t', R, hm, q⟩ => by
  obtain ⟨e, rfl⟩ := mVar_some hm
  have hi : i < Fs.s.length := by rw [R.l3, ← R.l2]; exact (List.getElem?_eq_some_iff.mp e).1
  obtain ⟨v, ev, ow⟩ := R.slot i n d _ hf e (List.getElem?_eq_getElem hi)
  have nd := List.nodup_append.mp R.nd
  refine ⟨v, ev, q v H ⟨.refl, R.tape, Fs.s[i], ((List.nodup_append.mp nd.1).2.1).sublist (List.sublist_flatten_of_mem (List.getElem_mem hi)), fun a ha => ?_, ow⟩⟩
  have hm : a ∈ Fs.e ++ Fs.s.flatten := List.mem_append_right _ (List.mem_flatten.mpr ⟨_, List.getElem_mem hi, ha⟩)
  exact ⟨List.mem_append_left _ hm, fun z => nd.2.2 a hm a z rfl⟩
/-- a name that is frozen -/
theorem fe_var (i : Nat) {x : Str} (hf : fl[i]? = some 0 := by rfl) (hN : X.N[i]? = some x := by rfl) (hv : Vis X.env.scope x := by first | exact Or.inl rfl | exact Or.inr (Or.inl rfl) | exact Or.inr (Or.inr rfl)) (hd : (x == ("__debug__" : Str)) = false := by decide)
    (hcd : (x == ("__classdict__" : Str)) = false := by decide) : FE X tp B fl (.Name x pos) (.o 0) (mVar i) := (fe_varW i hf hN hv hd hcd).zw
/-- a name that is read for now -/
theorem fe_varB (i : Nat) {x : Str} (hl : i < fl.length := by decide) (hN : X.N[i]? = some x := by rfl) (hv : Vis X.env.scope x := by first | exact Or.inl rfl | exact Or.inr (Or.inl rfl) | exact Or.inr (Or.inr rfl)) (hd : (x == ("__debug__" : Str)) = false := by decide)
    (hcd : (x == ("__classdict__" : Str)) = false := by decide) : FE X tp B fl (.Name x pos) .b (mVar i) := (fe_varW i (List.getElem?_eq_getElem hl) hN hv hd hcd).brw
def mC (d : D) : EM := fun _ t => some (d, t)
theorem fe_c {d : D} {v : V} (h : PE X e (tC v)) (hd : d.sc = some v) : FE X tp B fl e (.o 0) (mC d) := PE.imp h fun σ H Q ⟨Fs, ρ, t, d', t', R, hm, q⟩ => by
  cases hm
  exact q v H (.sc R.tape hd)
theorem fe_int {i j p} : FE X tp B fl (.Constant (.int i) j p) (.o 0) (mC (.int i)) := fe_c pe_int rfl
theorem fe_bl {i j p} : FE X tp B fl (.Constant (.bool i) j p) (.o 0) (mC (.bl i)) := fe_c pe_bl rfl
theorem fe_non {j p} : FE X tp B fl (.Constant .none j p) (.o 0) (mC .non) := fe_c pe_non rfl
theorem fe_str {x j p} : FE X tp B fl (.Constant (.str x) j p) (.o 0) (mC (.str x)) := fe_c pe_str rfl
/-- a global of the module that stands for d -/
theorem fe_glob {x : Str} {v : V} {u : Value} {d : D} (hg : Gl X x) (hm : X.mg x = some u) (r : RelV v u) (hr : ∀ H, Rp X.K tp H v d) (hd : (x == ("__debug__" : Str)) = false := by decide) : FE X tp B fl (.Name x pos) (.o 0) (mC d) :=
  PE.imp (pe_glob hg hm r hd) fun σ H Q ⟨Fs, ρ, t, d', t', R, hm, q⟩ => by
    cases hm
    exact q v H (.mk0 .refl R.tape (hr _))

/-! operators -/
def mOp (f : D → D → Option D) (ma mb : EM) : EM := fun ρ t => (ma ρ t).bind fun p => (mb ρ p.2).bind fun q => (f p.1 q.1).map fun d => (d, q.2)
theorem mOp_some {f : D → D → Option D} {ρ : Env} {t t' : Tape} {d : D} (h : mOp f ma mb ρ t = some (d, t')) : ∃ x t1 y, ma ρ t = some (x, t1) ∧ mb ρ t1 = some (y, t') ∧ f x y = some d := by
  unfold mOp at h
  cases e1 : ma ρ t with
  | none => rw [e1] at h; cases h
  | some p =>
    rw [e1] at h
    simp only [Option.bind_some] at h
    cases e2 : mb ρ p.2 with
    | none => rw [e2] at h; cases h
    | some q =>
      rw [e2] at h
      simp only [Option.bind_some] at h
      cases e3 : f p.1 q.1 with
      | none => rw [e3] at h; cases h
      | some z => rw [e3] at h; cases h; exact ⟨p.1, p.2, q.1, rfl, e2, e3⟩
/-- an operator by values: r serves f -/
def OpD (K : PySem.W.Frag) (tp : TP) (r : R2) (ka kb k : Kd) (f : D → D → Option D) : Prop :=
  ∀ (O : List Addr) (H : Hp) (x y : V) (dx dy d : D) (t : Tape) (Q : VK), Ok tp O H → TapeAt tp H t → In K tp O H ka x dx → In K tp O H kb y dy → f dx dy = some d → (∀ v H', Res K tp O H k d t v H' → Q v H') → r x y H Q
theorem tOp_of {r : R2} {f : D → D → Option D} (o : OpD X.K tp r ka kb k f) {σ : L2.St} {H : Hp} {Q : VK} (h : tE X.K tp B fl k (mOp f ma mb) σ H Q) : tOp r (tE X.K tp B fl ka ma) (tE X.K tp B fl kb mb) σ H Q := by
  obtain ⟨Fs, ρ, t, d, t', R, hm, q⟩ := h
  obtain ⟨x, t1, y, h1, h2, h3⟩ := mOp_some hm
  refine ⟨Fs, ρ, t, x, t1, R, h1, fun v1 H1 r1 => ⟨Fs, ρ, t1, y, t', R.step r1.same r1.tape, h2, fun v2 H2 r2 => ?_⟩⟩
  have R1 := R.step r1.same r1.tape
  have R2 := R1.step r2.same r2.tape
  refine o (ours tp Fs) H2 v1 v2 x y d t' Q R2.ok r2.tape ((r1.inn R.ok).step R1.ok r2.same) (r2.inn R1.ok) h3 fun v H' r3 => q v H' ?_
  exact .trans (r1.same.trans r2.same) r2.tape r3
theorem fe_op {op : Operator} {r : R2} {f : D → D → Option D} (ho : OpR X (binaryOp op) r) (o : OpD X.K tp r ka kb k f) (ha : FE X tp B fl a ka ma) (hb : FE X tp B fl b kb mb) : FE X tp B fl (.BinOp a op b pos) k (mOp f ma mb) :=
  PE.imp (pe_op ho ha hb) fun _ _ _ h => tOp_of o h
theorem fe_cmp {op : CmpOp} {r : R2} {f : D → D → Option D} (ho : OpR X (compareOp op) r) (o : OpD X.K tp r ka kb k f) (ha : FE X tp B fl a ka ma) (hb : FE X tp B fl b kb mb) (hm : behindInMarks op b = false := by first | exact nobehind _ (by decide) (by decide) | rfl) : FE X tp B fl (.Compare a [op] [b] pos) k (mOp f ma mb) :=
  PE.imp (pe_cmpR ho ha hb hm) fun _ _ _ h => tOp_of o h
end
end FL
set_option maxRecDepth 100000
set_option maxHeartbeats 2000000
noncomputable section
namespace FL
open PySem PySem.Spec PyProof.Rows L2

/-! ### equality -/
def toPy : Nat → D → PyData
  | 0, _ => .none
  | n + 1, .tup l => .tuple (l.map (toPy n))
  | n + 1, .lst l => .list (l.map (toPy n))
  | _ + 1, .non => .none
  | _ + 1, .bl b => .bool b
  | _ + 1, .int i => .int i
  | _ + 1, .str x => .str x
  | _ + 1, .tape => .none
/-- of depth below n, without the tape, its texts fit -/
def shp : Nat → D → Bool
  | 0, _ => false
  | n + 1, .tup l => l.all (shp n)
  | n + 1, .lst l => l.all (shp n)
  | _ + 1, .str x => PyData.strOk x
  | _ + 1, .tape => false
  | _ + 1, _ => true
/-- the same, without lists -/
def pln : Nat → D → Bool
  | 0, _ => false
  | n + 1, .tup l => l.all (pln n)
  | _ + 1, .lst _ => false
  | _ + 1, _ => true
theorem pln_noL : ∀ (n : Nat) (d : D), pln n d = true → NoL d
  | 0, _, h => by cases h
  | n + 1, .tup l, h => .tup fun d hd => pln_noL n d (List.all_eq_true.mp h d hd)
  | n + 1, .lst _, h => by cases h
  | n + 1, .non, _ => .non
  | n + 1, .bl b, _ => .bl b
  | n + 1, .int i, _ => .int i
  | n + 1, .str x, _ => .str x
  | n + 1, .tape, _ => .tape
def deqL (f : D → D → Bool) : List D → List D → Bool
  | [], [] => true
  | x :: xs, y :: ys => f x y && deqL f xs ys
  | _, _ => false
def deq : Nat → D → D → Bool
  | 0, _, _ => false
  | n + 1, .tup l, .tup m => deqL (deq n) l m
  | n + 1, .lst l, .lst m => deqL (deq n) l m
  | _ + 1, .non, .non => true
  | _ + 1, .bl a, .bl b => a == b
  | _ + 1, .bl a, .int j => (if a then 1 else 0) == j
  | _ + 1, .int i, .bl b => i == (if b then 1 else 0)
  | _ + 1, .int i, .int j => i == j
  | _ + 1, .str x, .str y => x == y
  | _ + 1, _, _ => false
theorem deqL_py {n : Nat} (ih : ∀ a b, shp n a = true → shp n b = true → deq n a b = PyData.eqv (toPy n a) (toPy n b)) : ∀ (l m : List D), l.all (shp n) = true → m.all (shp n) = true → deqL (deq n) l m = PyData.eqvAll (l.map (toPy n)) (m.map (toPy n))
  | [], [], _, _ => by simp [deqL, PyData.eqvAll]
  | [], _ :: _, _, _ => by simp [deqL, PyData.eqvAll]
  | _ :: _, [], _, _ => by simp [deqL, PyData.eqvAll]
  | a :: l, b :: m, h1, h2 => by
    simp only [List.all_cons, Bool.and_eq_true] at h1 h2
    simp only [deqL, List.map_cons, PyData.eqvAll, ih a b h1.1 h2.1, deqL_py ih l m h1.2 h2.2]
theorem deq_py : ∀ (n : Nat) (a b : D), shp n a = true → shp n b = true → deq n a b = PyData.eqv (toPy n a) (toPy n b)
  | 0, _, _, h, _ => by cases h
  | n + 1, a, b, h1, h2 => by
    cases a <;> cases b <;> first
      | (simp only [deq, toPy, PyData.eqv]; done)
      | (simp only [shp] at h1 h2; simp only [deq, toPy, PyData.eqv]; exact deqL_py (deq_py n) _ _ h1 h2)
      | (exfalso; simp [shp] at h1; done)
      | (exfalso; simp [shp] at h2; done)
theorem toPy_lay : ∀ (n : Nat) (d : D), shp n d = true → (toPy n d).canLay0 = true
  | 0, _, h => by cases h
  | n + 1, d, h => by
    have all : ∀ l : List D, l.all (shp n) = true → PyData.canLayAll0 (l.map (toPy n)) = true := fun l => by
      induction l with
      | nil => intro _; simp [PyData.canLayAll0]
      | cons a l ih =>
        intro q
        simp only [List.all_cons, Bool.and_eq_true] at q
        simp only [List.map_cons, PyData.canLayAll0, toPy_lay n a q.1, ih q.2, Bool.and_self]
    cases d with
    | tup l => simp only [toPy, PyData.canLay0]; exact all l (by simpa [shp] using h)
    | lst l => simp only [toPy, PyData.canLay0]; exact all l (by simpa [shp] using h)
    | str x => simpa [toPy, PyData.canLay0, shp] using h
    | tape => simp [shp] at h
    | non => simp [toPy, PyData.canLay0]
    | bl b => simp [toPy, PyData.canLay0]
    | int b => simp [toPy, PyData.canLay0]
theorem toPy_depth : ∀ (n : Nat) (d : D), (toPy n d).depth ≤ n
  | 0, _ => by simp [toPy, PyData.depth]
  | n + 1, d => by
    have all : ∀ l : List D, PyData.depthAll (l.map (toPy n)) ≤ n := fun l => by
      induction l with
      | nil => simp [PyData.depthAll]
      | cons a l ih => simp only [List.map_cons, PyData.depthAll]; have := toPy_depth n a; omega
    cases d with
    | tup l => simp only [toPy, PyData.depth]; have := all l; omega
    | lst l => simp only [toPy, PyData.depth]; have := all l; omega
    | _ => simp [toPy, PyData.depth]
theorem shaped_of {n : Nat} {d : D} (hn : n ≤ 64) (h : shp n d = true) : SeqAt.shaped (toPy n d) = true := by
  unfold SeqAt.shaped
  rw [toPy_lay n d h, Bool.true_and]
  have := toPy_depth n d
  exact decide_eq_true (by omega)
theorem dpAll {K : PySem.W.Frag} {tp : TP} {H : Hp} {n : Nat} : ∀ (xs : List V) (ds : List D), xs.length = ds.length → (∀ (i : Nat) (v : V) (d : D), xs[i]? = some v → ds[i]? = some d → Dp K H v (toPy n d)) → DpAll K H xs (ds.map (toPy n))
  | [], [], _, _ => .nil
  | [], _ :: _, h, _ => by simp at h
  | _ :: _, [], h, _ => by simp at h
  | x :: xs, d :: ds, h, r => .cons (r 0 x d rfl rfl) (dpAll (tp := tp) xs ds (by simpa using h) fun i v e h1 h2 => r (i + 1) v e (by simpa using h1) (by simpa using h2))
theorem Rp.dp {K : PySem.W.Frag} {tp : TP} {H : Hp} : ∀ (n : Nat) (v : V) (d : D), shp n d = true → Rp K tp H v d → Dp K H v (toPy n d)
  | 0, _, _, h, _ => by cases h
  | n + 1, v, d, h, r => by
    cases r with
    | non => exact .non
    | bl b => exact .bl b
    | int i => exact .int i
    | str x => exact .str x
    | tape e => simp [shp] at h
    | tup q l r =>
      simp only [shp] at h
      exact .tup q (dpAll (tp := tp) _ _ l fun i v d h1 h2 => Rp.dp n v d (List.all_eq_true.mp h d (List.mem_of_getElem? h2)) (r i v d h1 h2))
    | lst q l r =>
      simp only [shp] at h
      exact .lst (.inl (.inl q)) (dpAll (tp := tp) _ _ l fun i v d h1 h2 => Rp.dp n v d (List.all_eq_true.mp h d (List.mem_of_getElem? h2)) (r i v d h1 h2))
/-- how deep data may be -/
abbrev dep : Nat := 9
def oEq (x y : D) : Option D := if shp dep x && shp dep y then some (.bl (deq dep x y)) else none
def oNe (x y : D) : Option D := if shp dep x && shp dep y then some (.bl (!deq dep x y)) else none
section
variable {X : Cx} {K : PySem.W.Frag} {tp : TP} {ka kb : Kd}
theorem od_eq : OpD K tp (rEqD K) ka kb (.o 0) oEq := fun O H x y dx dy d t Q ok ta ix iy h q => by
  unfold oEq at h
  split at h
  · rename_i c
    rw [Bool.and_eq_true] at c
    cases h
    refine ⟨toPy dep dx, toPy dep dy, ix.all.dp _ _ _ c.1, iy.all.dp _ _ _ c.2, shaped_of (by decide) c.1, shaped_of (by decide) c.2, ?_⟩
    rw [← deq_py dep dx dy c.1 c.2]
    exact q _ _ (.sc ta rfl)
  · cases h
theorem od_ne : OpD K tp (rNeD K) ka kb (.o 0) oNe := fun O H x y dx dy d t Q ok ta ix iy h q => by
  unfold oNe at h
  split at h
  · rename_i c
    rw [Bool.and_eq_true] at c
    cases h
    refine ⟨toPy dep dx, toPy dep dy, ix.all.dp _ _ _ c.1, iy.all.dp _ _ _ c.2, shaped_of (by decide) c.1, shaped_of (by decide) c.2, ?_⟩
    rw [← deq_py dep dx dy c.1 c.2]
    exact q _ _ (.sc ta rfl)
  · cases h

/-! ### ints -/
def oII (C : Int → Int → Prop) [∀ i j, Decidable (C i j)] (g : Int → Int → D) (x y : D) : Option D := match x, y with
  | .int i, .int j => if C i j then some (g i j) else none
  | _, _ => none
theorem oII_some {C : Int → Int → Prop} [∀ i j, Decidable (C i j)] {g : Int → Int → D} {x y d : D} (h : oII C g x y = some d) : ∃ i j, x = .int i ∧ y = .int j ∧ C i j ∧ d = g i j := by
  unfold oII at h
  split at h
  · split at h
    · rename_i c; cases h; exact ⟨_, _, rfl, rfl, c, rfl⟩
    · cases h
  · cases h
theorem od_ii {C C' : Int → Int → Prop} [∀ i j, Decidable (C i j)] {g : Int → Int → D} {gv : Int → Int → V} (hg : ∀ i j, (g i j).sc = some (gv i j)) (hc : ∀ i j, C i j → C' i j) : OpD K tp (rI C' gv) ka kb (.o 0) (oII C g) := fun O H x y dx dy d t Q ok ta ix iy h q => by
  obtain ⟨i, j, rfl, rfl, c, rfl⟩ := oII_some h
  exact ⟨i, j, ix.all.int_inv, iy.all.int_inv, hc i j c, q _ _ (.sc ta (hg i j))⟩
theorem od_ii0 {g : Int → Int → D} {gv : Int → Int → V} (hg : ∀ i j, (g i j).sc = some (gv i j)) : OpD K tp (rI0 gv) ka kb (.o 0) (oII (fun _ _ => True) g) := fun O H x y dx dy d t Q ok ta ix iy h q => by
  obtain ⟨i, j, rfl, rfl, c, rfl⟩ := oII_some h
  exact ⟨i, j, ix.all.int_inv, iy.all.int_inv, q _ _ (.sc ta (hg i j))⟩
end
end FL
set_option maxRecDepth 100000
set_option maxHeartbeats 2000000
noncomputable section
namespace FL
open PySem PySem.Spec PyProof.Rows L2

/-! ### argument lists, displays -/
structure ResA (K : PySem.W.Frag) (tp : TP) (O : List Addr) (H : Hp) (k : Kd) (ds : List D) (t' : Tape) (vs : List V) (H' : Hp) : Prop where
  same : SameX tp H H'
  tape : TapeAt tp H' t'
  len : vs.length = ds.length
  val : ∀ (i : Nat) (v : V) (d : D), vs[i]? = some v → ds[i]? = some d → In K tp O H' k v d
def tA (K : PySem.W.Frag) (tp : TP) (B : Hp) (fl : List Nat) (k : Kd) (m : AM) : TA := fun σ H Q => ∃ Fs ρ t ds t', RelF K tp B fl Fs H σ ρ t ∧ m ρ t = some (ds, t') ∧ ∀ vs H', ResA K tp (ours tp Fs) H k ds t' vs H' → Q vs H'
def FA (X : Cx) (tp : TP) (B : Hp) (fl : List Nat) (es : List Expr) (k : Kd) (m : AM) : Prop := PA X es (tA X.K tp B fl k m)
def mNil : AM := fun _ t => some ([], t)
def mCons (ma : EM) (mr : AM) : AM := fun ρ t => (ma ρ t).bind fun p => (mr ρ p.2).map fun q => (p.1 :: q.1, q.2)
theorem mCons_some {ma : EM} {mr : AM} {ρ : Env} {t t' : Tape} {ds : List D} (h : mCons ma mr ρ t = some (ds, t')) : ∃ d t1 es, ma ρ t = some (d, t1) ∧ mr ρ t1 = some (es, t') ∧ ds = d :: es := by
  unfold mCons at h
  cases e1 : ma ρ t with
  | none => rw [e1] at h; cases h
  | some p =>
    rw [e1] at h
    simp only [Option.bind_some] at h
    cases e2 : mr ρ p.2 with
    | none => rw [e2] at h; cases h
    | some q => rw [e2] at h; cases h; exact ⟨p.1, p.2, q.1, rfl, e2, rfl⟩
section
variable {X : Cx} {tp : TP} {B : Hp} {fl : List Nat} {e a b : Expr} {es : List Expr} {k ka kb : Kd} {m ma mb : EM} {mr : AM} {pos : Pos}
theorem fa_nil : FA X tp B fl [] k mNil := PA.imp pa_nil fun σ H Q ⟨Fs, ρ, t, ds, t', R, hm, q⟩ => by
  cases hm
  exact q [] H ⟨.refl, R.tape, rfl, fun i v d h => by simp at h⟩
theorem fa_cons (ha : FE X tp B fl e k ma) (hr : FA X tp B fl es k mr) (hs : starEach (e :: es) X.env = (false, eval e X.env) :: starEach es X.env := by rfl) : FA X tp B fl (e :: es) k (mCons ma mr) :=
  PA.imp (pa_cons ha hr hs) fun σ H Q ⟨Fs, ρ, t, ds, t', R, hm, q⟩ => by
    obtain ⟨d, t1, es, h1, h2, rfl⟩ := mCons_some hm
    refine ⟨Fs, ρ, t, d, t1, R, h1, fun v1 H1 r1 => ?_⟩
    have R1 := R.step r1.same r1.tape
    refine ⟨Fs, ρ, t1, es, t', R1, h2, fun vs H2 r2 => q (v1 :: vs) H2 ⟨r1.same.trans r2.same, r2.tape, by simp [r2.len], fun i v d h3 h4 => ?_⟩⟩
    cases i with
    | zero => simp at h3 h4; subst h3; subst h4; exact (r1.inn R.ok).step R1.ok r2.same
    | succ i => exact r2.val i v d (by simpa using h3) (by simpa using h4)
theorem ResA.rpl {K : PySem.W.Frag} {O : List Addr} {H H' : Hp} {n : Nat} {ds : List D} {vs : List V} {t' : Tape} (r : ResA K tp O H (.o n) ds t' vs H') : RpL K tp (hid O H') vs ds := ⟨r.len, r.val⟩
theorem ResA.rplB {K : PySem.W.Frag} {O : List Addr} {H H' : Hp} {ds : List D} {vs : List V} {t' : Tape} (r : ResA K tp O H .b ds t' vs H') : RpL K tp (hid (tpl tp) H') vs ds := ⟨r.len, r.val⟩
/-- (by Classical: the kernel is not to count) -/
def sml (n : Nat) : Bool := @decide (n ≤ 100000) (Classical.propDecidable _)
theorem of_sml {n : Nat} (h : sml n = true) : n ≤ 100000 := @of_decide_eq_true _ (Classical.propDecidable _) h
theorem sml_of {n : Nat} (h : n ≤ 100000) : sml n = true := @decide_eq_true _ (Classical.propDecidable _) h
def small (l : List D) : Bool := sml l.length
theorem small_ok {l : List D} (h : small l = true) : l.length ≤ sizeLine := Nat.le_trans (of_sml h) (by decide)
def mTup (mr : AM) : EM := fun ρ t => (mr ρ t).bind fun p => if small p.1 then some (.tup p.1, p.2) else none
def mLst (mr : AM) : EM := fun ρ t => (mr ρ t).bind fun p => if small p.1 then some (.lst p.1, p.2) else none
theorem mTup_some {ρ : Env} {t t' : Tape} {d : D} (h : mTup mr ρ t = some (d, t')) : ∃ ds, mr ρ t = some (ds, t') ∧ small ds = true ∧ d = .tup ds := by
  unfold mTup at h
  cases e : mr ρ t with
  | none => rw [e] at h; cases h
  | some p =>
    rw [e] at h; simp only [Option.bind_some] at h
    split at h
    · rename_i c; cases h; exact ⟨p.1, rfl, c, rfl⟩
    · cases h
theorem mLst_some {ρ : Env} {t t' : Tape} {d : D} (h : mLst mr ρ t = some (d, t')) : ∃ ds, mr ρ t = some (ds, t') ∧ small ds = true ∧ d = .lst ds := by
  unfold mLst at h
  cases e : mr ρ t with
  | none => rw [e] at h; cases h
  | some p =>
    rw [e] at h; simp only [Option.bind_some] at h
    split at h
    · rename_i c; cases h; exact ⟨p.1, rfl, c, rfl⟩
    · cases h
theorem fe_tup {x1} (h : FA X tp B fl es (.o 0) mr) : FE X tp B fl (.Tuple es x1 pos) (.o 0) (mTup mr) := PE.imp (pe_tup h) fun σ H Q ⟨Fs, ρ, t, d, t', R, hm, q⟩ => by
  obtain ⟨ds, h1, hs, rfl⟩ := mTup_some hm
  refine ⟨Fs, ρ, t, ds, t', R, h1, fun vs H1 r => ⟨by rw [r.len]; exact small_ok hs, fun p hp => q _ _ ?_⟩⟩
  have R1 := R.step r.same r.tape
  exact .trans r.same r.tape (.tupN R1.ok r.tape hp r.rpl)
theorem fe_lst (h : FA X tp B fl es (.o 0) mr) : FE X tp B fl (.List es pos) (.o 1) (mLst mr) := PE.imp (pe_lst h) fun σ H Q ⟨Fs, ρ, t, d, t', R, hm, q⟩ => by
  obtain ⟨ds, h1, hs, rfl⟩ := mLst_some hm
  refine ⟨Fs, ρ, t, ds, t', R, h1, fun vs H1 r => ⟨by rw [r.len]; exact small_ok hs, fun p hp => q _ _ ?_⟩⟩
  have R1 := R.step r.same r.tape
  exact .trans r.same r.tape (.lstN R1.ok r.tape hp r.rpl)

/-! ### calls by values -/
def mCallB (g : List D → Option D) (mr : AM) : EM := fun ρ t => (mr ρ t).bind fun p => (g p.1).map fun d => (d, p.2)
theorem mCallB_some {g : List D → Option D} {ρ : Env} {t t' : Tape} {d : D} (h : mCallB g mr ρ t = some (d, t')) : ∃ ds, mr ρ t = some (ds, t') ∧ g ds = some d := by
  unfold mCallB at h
  cases e : mr ρ t with
  | none => rw [e] at h; cases h
  | some p =>
    rw [e] at h; simp only [Option.bind_some] at h
    cases e2 : g p.1 with
    | none => rw [e2] at h; cases h
    | some z => rw [e2] at h; cases h; exact ⟨p.1, rfl, e2⟩
/-- r serves g: arguments held as ka, the answer as k -/
def CallD (K : PySem.W.Frag) (tp : TP) (r : List V → Hp → VK → Prop) (ka k : Kd) (g : List D → Option D) : Prop :=
  ∀ (O : List Addr) (H : Hp) (vs : List V) (ds : List D) (d : D) (t : Tape) (Q : VK), Ok tp O H → TapeAt tp H t → vs.length = ds.length → (∀ (i : Nat) (v : V) (d : D), vs[i]? = some v → ds[i]? = some d → In K tp O H ka v d) → g ds = some d → (∀ v H', Res K tp O H k d t v H' → Q v H') → r vs H Q
theorem tCB_of {r : List V → Hp → VK → Prop} {g : List D → Option D} (o : CallD X.K tp r ka k g) {σ : L2.St} {H : Hp} {Q : VK} (h : tE X.K tp B fl k (mCallB g mr) σ H Q) : tCB r (tA X.K tp B fl ka mr) σ H Q := by
  obtain ⟨Fs, ρ, t, d, t', R, hm, q⟩ := h
  obtain ⟨ds, h1, h2⟩ := mCallB_some hm
  refine ⟨Fs, ρ, t, ds, t', R, h1, fun vs H1 r1 => ?_⟩
  have R1 := R.step r1.same r1.tape
  exact o _ H1 vs ds d t' Q R1.ok r1.tape r1.len r1.val h2 fun v H' r2 => q v H' (.trans r1.same r1.tape r2)
theorem fe_callB {x : Str} {id : String} {p : Pos} {r : List V → Hp → VK → Prop} {g : List D → Option D} (hc : CallR X (.builtin id) r) (o : CallD X.K tp r ka k g) (hg : Gl X x) (hm : X.mg x = none) (hv : bootBuiltins x = some (.builtin id)) (ha : FA X tp B fl (e :: es) ka mr) (hn : x ≠ "__name__" := by decide) (hdb : (x == ("__debug__" : Str)) = false := by decide)
    (he : starEach (e :: es) X.env = (false, eval e X.env) :: starEach es X.env := by rfl) (hpl : (backTo pos (starEach es X.env)).any (·.1) = false := by rfl) : FE X tp B fl (.Call (.Name x p) (e :: es) [] pos) k (mCallB g mr) :=
  PE.imp (pe_callB hc hg hm hv ha hn hdb he hpl) fun _ _ _ h => tCB_of o h
theorem fe_callTy {x : Str} {T : String} {p : Pos} {r : List V → Hp → VK → Prop} {g : List D → Option D} (hc : CallR X (.type T) r) (o : CallD X.K tp r ka k g) (hg : Gl X x) (hm : X.mg x = none) (hv : bootBuiltins x = some (.type T)) (ha : FA X tp B fl (e :: es) ka mr) (hn : x ≠ "__name__" := by decide) (hdb : (x == ("__debug__" : Str)) = false := by decide)
    (he : starEach (e :: es) X.env = (false, eval e X.env) :: starEach es X.env := by rfl) (hpl : (backTo pos (starEach es X.env)).any (·.1) = false := by rfl) : FE X tp B fl (.Call (.Name x p) (e :: es) [] pos) k (mCallB g mr) :=
  PE.imp (pe_callTy hc hg hm hv ha hn hdb he hpl) fun _ _ _ h => tCB_of o h
theorem one_of {vs : List V} {d : D} {K : PySem.W.Frag} {O : List Addr} {H : Hp} {ka : Kd} (l : vs.length = [d].length) (r : ∀ (i : Nat) (v : V) (e : D), vs[i]? = some v → [d][i]? = some e → In K tp O H ka v e) : ∃ v, vs = [v] ∧ In K tp O H ka v d := by
  match vs, l with
  | [v], _ => exact ⟨v, rfl, r 0 v d rfl rfl⟩
theorem two_of {vs : List V} {d e : D} {K : PySem.W.Frag} {O : List Addr} {H : Hp} {ka : Kd} (l : vs.length = [d, e].length) (r : ∀ (i : Nat) (v : V) (f : D), vs[i]? = some v → [d, e][i]? = some f → In K tp O H ka v f) : ∃ v w, vs = [v, w] ∧ In K tp O H ka v d ∧ In K tp O H ka w e := by
  match vs, l with
  | [v, w], _ => exact ⟨v, w, rfl, r 0 v d rfl rfl, r 1 w e rfl rfl⟩
/-- len -/
def gLen : List D → Option D
  | [.tup l] => some (.int l.length)
  | [.lst l] => some (.int l.length)
  | [.str x] => if sml x.length = true then some (.int x.length) else none
  | _ => none
def rLenA (K : PySem.W.Frag) : List V → Hp → VK → Prop := fun xs H Q => (∃ p ys, xs = [.ref p] ∧ (SqL K H p ys ∨ SqT K H p ys) ∧ Q (.int ys.length) H) ∨ (∃ z, xs = [.str z] ∧ z.length ≤ sizeLine ∧ Q (.int z.length) H)
theorem cr_lenA : CallR X (.builtin "len") (rLenA X.K) := CallR.or call_len_seq call_len_str
theorem cd_len {K : PySem.W.Frag} : CallD K tp (rLenA K) ka (.o 0) gLen := fun O H vs ds d t Q ok ta l r h q => by
  unfold gLen at h
  split at h
  · rename_i l'
    obtain ⟨v, rfl, i⟩ := one_of l r
    obtain ⟨a, xs, rfl, hs, hr⟩ := i.all.tupL
    cases h
    refine .inl ⟨a, xs, rfl, .inr hs, q _ _ (.sc ta ?_)⟩
    show some (V.int _) = some (V.int _)
    rw [hr.1]
  · rename_i l'
    obtain ⟨v, rfl, i⟩ := one_of l r
    obtain ⟨a, xs, rfl, hs, hr⟩ := i.all.lstL
    cases h
    refine .inl ⟨a, xs, rfl, .inl (.inl (.inl hs)), q _ _ (.sc ta ?_)⟩
    show some (V.int _) = some (V.int _)
    rw [hr.1]
  · rename_i x
    obtain ⟨v, rfl, i⟩ := one_of l r
    split at h
    · rename_i c
      cases h
      exact .inr ⟨x, by rw [i.all.str_inv], Nat.le_trans (of_sml c) (by decide), q _ _ (.sc ta rfl)⟩
    · cases h
  · cases h
def gAbs : List D → Option D
  | [.int i] => some (.int (if i < 0 then -i else i))
  | _ => none
theorem cd_abs {K : PySem.W.Frag} : CallD K tp (fun xs H Q => ∃ i, xs = [.int i] ∧ Q (.int (if i < 0 then -i else i)) H) ka (.o 0) gAbs := fun O H vs ds d t Q ok ta l r h q => by
  unfold gAbs at h
  split at h
  · rename_i i
    obtain ⟨v, rfl, iv⟩ := one_of l r
    cases h
    exact ⟨i, by rw [iv.all.int_inv], q _ _ (.sc ta rfl)⟩
  · cases h
def gInt : List D → Option D
  | [.int i] => some (.int i)
  | _ => none
theorem cd_int {K : PySem.W.Frag} : CallD K tp (fun xs H Q => (∃ i, xs = [.int i] ∧ Q (.int i) H) ∨ ∃ k, xs = [.bl k] ∧ Q (.int (if k then 1 else 0)) H) ka (.o 0) gInt := fun O H vs ds d t Q ok ta l r h q => by
  unfold gInt at h
  split at h
  · rename_i i
    obtain ⟨v, rfl, iv⟩ := one_of l r
    cases h
    exact .inl ⟨i, by rw [iv.all.int_inv], q _ _ (.sc ta rfl)⟩
  · cases h
/-- lists of bools, of ints -/
def bls : List D → Option (List Bool)
  | [] => some []
  | .bl b :: r => (bls r).map (b :: ·)
  | _ => none
def ins : List D → Option (List Int)
  | [] => some []
  | .int b :: r => (ins r).map (b :: ·)
  | _ => none
theorem bls_some : ∀ {ds : List D} {bs : List Bool}, bls ds = some bs → ds = bs.map D.bl
  | [], bs, h => by cases h; rfl
  | .bl b :: r, bs, h => by
    simp only [bls] at h
    cases e : bls r with
    | none => rw [e] at h; cases h
    | some cs => rw [e] at h; cases h; rw [bls_some e]; rfl
  | .non :: r, bs, h => by simp [bls] at h
  | .int _ :: r, bs, h => by simp [bls] at h
  | .str _ :: r, bs, h => by simp [bls] at h
  | .tup _ :: r, bs, h => by simp [bls] at h
  | .lst _ :: r, bs, h => by simp [bls] at h
  | .tape :: r, bs, h => by simp [bls] at h
theorem ins_some : ∀ {ds : List D} {bs : List Int}, ins ds = some bs → ds = bs.map D.int
  | [], bs, h => by cases h; rfl
  | .int b :: r, bs, h => by
    simp only [ins] at h
    cases e : ins r with
    | none => rw [e] at h; cases h
    | some cs => rw [e] at h; cases h; rw [ins_some e]; rfl
  | .non :: r, bs, h => by simp [ins] at h
  | .bl _ :: r, bs, h => by simp [ins] at h
  | .str _ :: r, bs, h => by simp [ins] at h
  | .tup _ :: r, bs, h => by simp [ins] at h
  | .lst _ :: r, bs, h => by simp [ins] at h
  | .tape :: r, bs, h => by simp [ins] at h
@[simp] theorem bls_map (bs : List Bool) : bls (bs.map D.bl) = some bs := by
  induction bs with
  | nil => rfl
  | cons b r ih => simp only [List.map_cons, bls, ih, Option.map_some]
@[simp] theorem ins_map (bs : List Int) : ins (bs.map D.int) = some bs := by
  induction bs with
  | nil => rfl
  | cons b r ih => simp only [List.map_cons, ins, ih, Option.map_some]
theorem rpl_sc {K : PySem.W.Frag} {H : Hp} {α : Type} {f : α → D} {g : α → V} (hfg : ∀ x v, Rp K tp H v (f x) → v = g x) : ∀ {ls : List α} {xs : List V}, RpL K tp H xs (ls.map f) → xs = ls.map g
  | [], [], _ => rfl
  | [], _ :: _, r => by have := r.1; simp at this
  | _ :: _, [], r => by have := r.1; simp at this
  | a :: ls, x :: xs, r => by
    rw [List.map_cons] at r
    rw [List.map_cons, hfg a x r.head, rpl_sc hfg r.tail]
def gAll : List D → Option D
  | [.lst l] => (bls l).map fun bs => .bl (bs.all id)
  | _ => none
def gAny : List D → Option D
  | [.lst l] => (bls l).map fun bs => .bl (bs.any id)
  | _ => none
def gSum : List D → Option D
  | [.lst l] => (ins l).map fun bs => .int bs.sum
  | _ => none
theorem cd_all {K : PySem.W.Frag} : CallD K tp (rAll K) ka (.o 0) gAll := fun O H vs ds d t Q ok ta l r h q => by
  unfold gAll at h
  split at h
  · rename_i l'
    obtain ⟨v, rfl, i⟩ := one_of l r
    obtain ⟨a, xs, rfl, hs, hr⟩ := i.all.lstL
    cases e : bls l' with
    | none => rw [e] at h; cases h
    | some bs =>
      rw [e] at h; cases h
      rw [bls_some e] at hr
      have ex := rpl_sc (g := V.bl) (fun x v h => h.bl_inv) hr
      subst ex
      exact ⟨a, bs, rfl, .inl (.inl hs), q _ _ (.sc ta rfl)⟩
  · cases h
theorem cd_any {K : PySem.W.Frag} : CallD K tp (rAny K) ka (.o 0) gAny := fun O H vs ds d t Q ok ta l r h q => by
  unfold gAny at h
  split at h
  · rename_i l'
    obtain ⟨v, rfl, i⟩ := one_of l r
    obtain ⟨a, xs, rfl, hs, hr⟩ := i.all.lstL
    cases e : bls l' with
    | none => rw [e] at h; cases h
    | some bs =>
      rw [e] at h; cases h
      rw [bls_some e] at hr
      have ex := rpl_sc (g := V.bl) (fun x v h => h.bl_inv) hr
      subst ex
      exact ⟨a, bs, rfl, .inl (.inl hs), q _ _ (.sc ta rfl)⟩
  · cases h
theorem cd_sum {K : PySem.W.Frag} : CallD K tp (rSum K) ka (.o 0) gSum := fun O H vs ds d t Q ok ta l r h q => by
  unfold gSum at h
  split at h
  · rename_i l'
    obtain ⟨v, rfl, i⟩ := one_of l r
    obtain ⟨a, xs, rfl, hs, hr⟩ := i.all.lstL
    cases e : ins l' with
    | none => rw [e] at h; cases h
    | some bs =>
      rw [e] at h; cases h
      rw [ins_some e] at hr
      have ex := rpl_sc (g := V.int) (fun x v h => h.int_inv) hr
      subst ex
      exact ⟨a, bs, rfl, .inl (.inl hs), q _ _ (.sc ta rfl)⟩
  · cases h
/-- tuple(list), tuple(tuple) : the items are to be frozen -/
def gTuple : List D → Option D
  | [.lst l] => some (.tup l)
  | [.tup l] => some (.tup l)
  | _ => none
def rTupleOf (K : PySem.W.Frag) : List V → Hp → VK → Prop := fun xs H Q => ∃ p ys, xs = [.ref p] ∧ ((SqL K H p ys ∧ ∀ l, H l = none → Q (.ref l) (upd H l (.tup ys))) ∨ (SqT K H p ys ∧ Q (.ref p) H))
theorem cd_tuple {K : PySem.W.Frag} : CallD K tp (rTupleOf K) .l (.o 0) gTuple := fun O H vs ds d t Q ok ta l r h q => by
  unfold gTuple at h
  split at h
  · rename_i l'
    obtain ⟨v, rfl, i⟩ := one_of l r
    obtain ⟨a, xs, rfl, hs, hr⟩ := Lv.lst (show Lv K tp O H v (.lst l') from i)
    cases h
    exact ⟨a, xs, rfl, .inl ⟨.inl (.inl hs), fun p hp => q _ _ (.tupN ok ta hp hr)⟩⟩
  · rename_i l'
    obtain ⟨v, rfl, i⟩ := one_of l r
    have i' : Rp K tp (hid O H) v (.tup l') := Lv.tup i
    obtain ⟨a, xs, rfl, hs, hr⟩ := i'.tupL
    cases h
    exact ⟨a, xs, rfl, .inr ⟨Same.seqT hid_sub hs, q _ _ (.mk0 .refl ta i')⟩⟩
  · cases h
/-- list(list), list(tuple) -/
def gList : List D → Option D
  | [.lst l] => some (.lst l)
  | [.tup l] => some (.lst l)
  | _ => none
def rListOf (K : PySem.W.Frag) : List V → Hp → VK → Prop := fun xs H Q => ∃ p ys, xs = [.ref p] ∧ (SqL K H p ys ∨ SqT K H p ys) ∧ ∀ l, H l = none → Q (.ref l) (upd H l (.lst ys))
theorem cd_list {K : PySem.W.Frag} : CallD K tp (rListOf K) .l (.o 1) gList := fun O H vs ds d t Q ok ta l r h q => by
  unfold gList at h
  split at h
  · rename_i l'
    obtain ⟨v, rfl, i⟩ := one_of l r
    obtain ⟨a, xs, rfl, hs, hr⟩ := Lv.lst (show Lv K tp O H v (.lst l') from i)
    cases h
    exact ⟨a, xs, rfl, .inl (.inl (.inl hs)), fun p hp => q _ _ (.lstN ok ta hp hr)⟩
  · rename_i l'
    obtain ⟨v, rfl, i⟩ := one_of l r
    have i' : Rp K tp (hid O H) v (.tup l') := Lv.tup i
    obtain ⟨a, xs, rfl, hs, hr⟩ := i'.tupL
    cases h
    exact ⟨a, xs, rfl, .inr (Same.seqT hid_sub hs), fun p hp => q _ _ (.lstN ok ta hp hr)⟩
  · cases h
end
end FL
set_option maxRecDepth 100000
set_option maxHeartbeats 2000000
noncomputable section
namespace FL
open PySem PySem.Spec PyProof.Rows L2

/-! ### tests -/
def tT (K : PySem.W.Frag) (tp : TP) (B : Hp) (fl : List Nat) (m : BM) : TT := fun σ H Q => ∃ Fs ρ t b t', RelF K tp B fl Fs H σ ρ t ∧ m ρ t = some (b, t') ∧ ∀ H', SameX tp H H' → TapeAt tp H' t' → Q b H'
def FT (X : Cx) (tp : TP) (B : Hp) (fl : List Nat) (e : Expr) (m : BM) : Prop := PT X e (tT X.K tp B fl m)
def FW (X : Cx) (tp : TP) (B : Hp) (fl : List Nat) (e : Expr) (m : BM) : Prop := PW X e (tT X.K tp B fl m)
theorem PW.imp {X : Cx} {e : Expr} {t u : TT} (h : PW X e t) (i : ∀ σ H Q, u σ H Q → t σ H Q) : PW X e u := ⟨fun wh pins s σ H Q I q => h.run wh pins s σ H Q I (i σ H Q q)⟩
def mTst (m : EM) : BM := fun ρ t => (m ρ t).bind fun p => match p.1 with
  | .bl b => some (b, p.2)
  | _ => none
theorem mTst_some {m : EM} {ρ : Env} {t t' : Tape} {b : Bool} (h : mTst m ρ t = some (b, t')) : m ρ t = some (.bl b, t') := by
  unfold mTst at h
  cases e : m ρ t with
  | none => rw [e] at h; cases h
  | some p =>
    obtain ⟨d, t1⟩ := p
    rw [e] at h; simp only [Option.bind_some] at h
    split at h
    · cases h; rfl
    · cases h
def mAnd (ma mb : BM) : BM := fun ρ t => (ma ρ t).bind fun p => if p.1 = true then mb ρ p.2 else some (false, p.2)
def mOr (ma mb : BM) : BM := fun ρ t => (ma ρ t).bind fun p => if p.1 = true then some (true, p.2) else mb ρ p.2
def mNot (ma : BM) : BM := fun ρ t => (ma ρ t).map fun p => (!p.1, p.2)
theorem bind_some {α β : Type} {m : Option α} {f : α → Option β} {b : β} (h : m.bind f = some b) : ∃ a, m = some a ∧ f a = some b := by
  cases m with
  | none => cases h
  | some a => exact ⟨a, rfl, h⟩
section
variable {X : Cx} {tp : TP} {B : Hp} {fl : List Nat} {e a b c : Expr} {es rest : List Expr} {k ka kb kc : Kd} {m ma mb mc : EM} {ba bb : BM} {mr : AM} {pos : Pos}
theorem ft_val (h : FE X tp B fl e k m) (he : ∀ whole, isTrue e X.env whole = (do let v ← whole; standAt e.pos; holding [v] (truthy v)) := by intro _; rfl) : FT X tp B fl e (mTst m) :=
  PT.imp (pt_val h he) fun σ H Q ⟨Fs, ρ, t, b, t', R, hm, q⟩ => ⟨Fs, ρ, t, .bl b, t', R, mTst_some hm, fun v H' r => ⟨b, (r.inn R.ok).all.bl_inv, q H' r.same r.tape⟩⟩
theorem ft_cmp {op : CmpOp} {r : R2} {f : D → D → Option D} (ho : OpR X (compareOp op) r) (o : OpD X.K tp r ka kb k f) (ha : FE X tp B fl a ka ma) (hb : FE X tp B fl b kb mb) (hm : behindInMarks op b = false := by first | exact nobehind _ (by decide) (by decide) | rfl) : FT X tp B fl (.Compare a [op] [b] pos) (mTst (mOp f ma mb)) :=
  PT.imp (pt_cmpR ho ha hb hm) fun σ H Q ⟨Fs, ρ, t, b, t', R, hm, q⟩ => tOp_of o ⟨Fs, ρ, t, .bl b, t', R, mTst_some hm, fun v H' r => ⟨b, (r.inn R.ok).all.bl_inv, q H' r.same r.tape⟩⟩
theorem fw_and1 (ha : FT X tp B fl a ba) : FW X tp B fl (.BoolOp .And [a] pos) ba := pw_and1 ha
theorem fw_or1 (ha : FT X tp B fl a ba) : FW X tp B fl (.BoolOp .Or [a] pos) ba := pw_or1 ha
theorem fw_and (ha : FT X tp B fl a ba) (hb : FW X tp B fl (.BoolOp .And (b :: rest) pos) bb) : FW X tp B fl (.BoolOp .And (a :: b :: rest) pos) (mAnd ba bb) :=
  PW.imp (pw_and ha hb) fun σ H Q ⟨Fs, ρ, t, b, t', R, hm, q⟩ => by
    obtain ⟨⟨c, t1⟩, h1, h2⟩ := bind_some hm
    refine ⟨Fs, ρ, t, c, t1, R, h1, fun H1 s1 ta1 => ?_⟩
    cases c with
    | true =>
      simp only [if_true] at h2 ⊢
      exact ⟨Fs, ρ, t1, b, t', R.step s1 ta1, h2, fun H2 s2 ta2 => q H2 (s1.trans s2) ta2⟩
    | false =>
      simp only [Bool.false_eq_true, if_false] at h2 ⊢
      cases h2
      exact q H1 s1 ta1
theorem fw_or (ha : FT X tp B fl a ba) (hb : FW X tp B fl (.BoolOp .Or (b :: rest) pos) bb) : FW X tp B fl (.BoolOp .Or (a :: b :: rest) pos) (mOr ba bb) :=
  PW.imp (pw_or ha hb) fun σ H Q ⟨Fs, ρ, t, b, t', R, hm, q⟩ => by
    obtain ⟨⟨c, t1⟩, h1, h2⟩ := bind_some hm
    refine ⟨Fs, ρ, t, c, t1, R, h1, fun H1 s1 ta1 => ?_⟩
    cases c with
    | false =>
      simp only [Bool.false_eq_true, if_false] at h2 ⊢
      exact ⟨Fs, ρ, t1, b, t', R.step s1 ta1, h2, fun H2 s2 ta2 => q H2 (s1.trans s2) ta2⟩
    | true =>
      simp only [if_true] at h2 ⊢
      cases h2
      exact q H1 s1 ta1
theorem FW.ft (h : FW X tp B fl e ba) : FT X tp B fl e ba := PW.pt h
theorem ft_not (ha : FT X tp B fl a ba) : FT X tp B fl (.UnaryOp .Not a pos) (mNot ba) := PT.imp (pt_not ha) fun σ H Q ⟨Fs, ρ, t, b, t', R, hm, q⟩ => by
  unfold mNot at hm
  cases e : ba ρ t with
  | none => rw [e] at hm; cases hm
  | some p =>
    rw [e] at hm; cases hm
    exact ⟨Fs, ρ, t, p.1, p.2, R, e, fun H' s ta => q H' s ta⟩
/-! as values -/
def mAndV (ma mb : EM) : EM := fun ρ t => (ma ρ t).bind fun p => match p.1 with
  | .bl true => mb ρ p.2
  | .bl false => some (.bl false, p.2)
  | _ => none
def mOrV (ma mb : EM) : EM := fun ρ t => (ma ρ t).bind fun p => match p.1 with
  | .bl false => mb ρ p.2
  | .bl true => some (.bl true, p.2)
  | _ => none
def mNotV (ma : EM) : EM := fun ρ t => (ma ρ t).bind fun p => match p.1 with
  | .bl b => some (.bl (!b), p.2)
  | _ => none
theorem fe_one {op} (h : FE X tp B fl a k m) : FE X tp B fl (.BoolOp op [a] pos) k m := pe_one h
theorem fe_and (ha : FE X tp B fl a ka ma) (hb : FE X tp B fl (.BoolOp .And (b :: rest) pos) (.o 0) mb) : FE X tp B fl (.BoolOp .And (a :: b :: rest) pos) (.o 0) (mAndV ma mb) :=
  PE.imp (pe_and ha hb) fun σ H Q ⟨Fs, ρ, t, d, t', R, hm, q⟩ => by
    obtain ⟨⟨c, t1⟩, h1, h2⟩ := bind_some hm
    simp only at h2
    split at h2
    · exact ⟨Fs, ρ, t, _, t1, R, h1, fun v H1 r => ⟨true, (r.inn R.ok).all.bl_inv, by
        rw [if_pos rfl]
        exact ⟨Fs, ρ, t1, d, t', R.step r.same r.tape, h2, fun v H2 r2 => q v H2 (.trans r.same r.tape r2)⟩⟩⟩
    · cases h2
      exact ⟨Fs, ρ, t, _, _, R, h1, fun v H1 r => ⟨false, (r.inn R.ok).all.bl_inv, by
        rw [if_neg Bool.false_ne_true]
        exact q _ H1 (.trans r.same r.tape (.sc r.tape rfl))⟩⟩
    · cases h2
theorem fe_or (ha : FE X tp B fl a ka ma) (hb : FE X tp B fl (.BoolOp .Or (b :: rest) pos) (.o 0) mb) : FE X tp B fl (.BoolOp .Or (a :: b :: rest) pos) (.o 0) (mOrV ma mb) :=
  PE.imp (pe_or ha hb) fun σ H Q ⟨Fs, ρ, t, d, t', R, hm, q⟩ => by
    obtain ⟨⟨c, t1⟩, h1, h2⟩ := bind_some hm
    simp only at h2
    split at h2
    · exact ⟨Fs, ρ, t, _, t1, R, h1, fun v H1 r => ⟨false, (r.inn R.ok).all.bl_inv, by
        rw [if_neg Bool.false_ne_true]
        exact ⟨Fs, ρ, t1, d, t', R.step r.same r.tape, h2, fun v H2 r2 => q v H2 (.trans r.same r.tape r2)⟩⟩⟩
    · cases h2
      exact ⟨Fs, ρ, t, _, _, R, h1, fun v H1 r => ⟨true, (r.inn R.ok).all.bl_inv, by
        rw [if_pos rfl]
        exact q _ H1 (.trans r.same r.tape (.sc r.tape rfl))⟩⟩
    · cases h2
theorem fe_not (ha : FE X tp B fl a ka ma) : FE X tp B fl (.UnaryOp .Not a pos) (.o 0) (mNotV ma) := PE.imp (pe_not ha) fun σ H Q ⟨Fs, ρ, t, d, t', R, hm, q⟩ => by
  obtain ⟨⟨c, t1⟩, h1, h2⟩ := bind_some hm
  simp only at h2
  split at h2
  · rename_i _ bb
    cases h2
    exact ⟨Fs, ρ, t, _, _, R, h1, fun v H1 r => ⟨bb, (r.inn R.ok).all.bl_inv, q _ H1 (.trans r.same r.tape (.sc r.tape rfl))⟩⟩
  · cases h2
def mIfE (c : BM) (ma mb : EM) : EM := fun ρ t => (c ρ t).bind fun p => if p.1 = true then ma ρ p.2 else mb ρ p.2
theorem fe_if (hc : FT X tp B fl c ba) (ha : FE X tp B fl a k ma) (hb : FE X tp B fl b k mb) : FE X tp B fl (.IfExp c a b pos) k (mIfE ba ma mb) :=
  PE.imp (pe_ifExp hc ha hb) fun σ H Q ⟨Fs, ρ, t, d, t', R, hm, q⟩ => by
    obtain ⟨⟨z, t1⟩, h1, h2⟩ := bind_some hm
    refine ⟨Fs, ρ, t, z, t1, R, h1, fun H1 s1 ta1 => ?_⟩
    cases z with
    | true =>
      simp only [if_true] at h2 ⊢
      exact ⟨Fs, ρ, t1, d, t', R.step s1 ta1, h2, fun v H2 r2 => q v H2 (.trans s1 ta1 r2)⟩
    | false =>
      simp only [Bool.false_eq_true, if_false] at h2 ⊢
      exact ⟨Fs, ρ, t1, d, t', R.step s1 ta1, h2, fun v H2 r2 => q v H2 (.trans s1 ta1 r2)⟩
/-! unary minus -/
def mUn (f : D → Option D) (ma : EM) : EM := fun ρ t => (ma ρ t).bind fun p => (f p.1).map fun d => (d, p.2)
theorem mUn_some {f : D → Option D} {ρ : Env} {t t' : Tape} {d : D} (h : mUn f ma ρ t = some (d, t')) : ∃ x, ma ρ t = some (x, t') ∧ f x = some d := by
  obtain ⟨⟨x, t1⟩, h1, h2⟩ := bind_some h
  simp only at h2
  cases e : f x with
  | none => rw [e] at h2; cases h2
  | some z => rw [e] at h2; cases h2; exact ⟨x, h1, e⟩
def oNeg : D → Option D
  | .int i => some (.int (-i))
  | _ => none
theorem fe_neg (ha : FE X tp B fl a k ma) : FE X tp B fl (.UnaryOp .USub a pos) (.o 0) (mUn oNeg ma) := PE.imp (pe_un un_neg ha) fun σ H Q ⟨Fs, ρ, t, d, t', R, hm, q⟩ => by
  obtain ⟨x, h1, h2⟩ := mUn_some hm
  unfold oNeg at h2
  split at h2
  · rename_i i
    cases h2
    exact ⟨Fs, ρ, t, _, t', R, h1, fun v H1 r => ⟨i, (r.inn R.ok).all.int_inv, q _ H1 (.trans r.same r.tape (.sc r.tape rfl))⟩⟩
  · cases h2
/-! subscripts -/
def rIxA (K : PySem.W.Frag) : R2 := fun x y H Q => rIxT K x y H Q ∨ rIxL K x y H Q
theorem ix_any : IxR X (rIxA X.K) := IxR.or ix_tup ix_list
def oIx (x y : D) : Option D := match x, y with
  | .tup l, .int i => atI l i
  | .lst l, .int i => atI l i
  | _, _ => none
theorem RpL.atI {K : PySem.W.Frag} {H : Hp} {xs : List V} {ds : List D} {i : Int} {d : D} (r : RpL K tp H xs ds) (h : L2.atI ds i = some d) : ∃ v, L2.atI xs i = some v ∧ Rp K tp H v d := by
  unfold L2.atI at h ⊢
  rw [← r.1] at h
  cases e : ixN xs.length i with
  | none => rw [e] at h; cases h
  | some j =>
    rw [e] at h
    exact r.get (show ds[j]? = some d from h)
theorem od_ix {K : PySem.W.Frag} : OpD K tp (rIxA K) .l kb (.o 0) oIx := fun O H x y dx dy d t Q ok ta ix iy h q => by
  unfold oIx at h
  split at h
  · rename_i l i
    obtain ⟨a, xs, rfl, hs, hr⟩ := (Lv.tup ix).tupL
    obtain ⟨v, h1, h2⟩ := hr.atI h
    exact .inl ⟨a, xs, i, v, rfl, iy.all.int_inv, Same.seqT hid_sub hs, h1, q _ _ (.mk0 .refl ta h2)⟩
  · rename_i l i
    obtain ⟨a, xs, rfl, hs, hr⟩ := Lv.lst ix
    obtain ⟨v, h1, h2⟩ := hr.atI h
    exact .inr ⟨a, xs, i, v, rfl, iy.all.int_inv, .inl (.inl hs), h1, q _ _ (.mk0 .refl ta h2)⟩
  · cases h
theorem od_ixB {K : PySem.W.Frag} : OpD K tp (rIxA K) .b kb .b oIx := fun O H x y dx dy d t Q ok ta ix iy h q => by
  have ix' : Rp K tp (hid (tpl tp) H) x dx := ix
  unfold oIx at h
  split at h
  · rename_i l i
    obtain ⟨a, xs, rfl, hs, hr⟩ := ix'.tupL
    obtain ⟨v, h1, h2⟩ := hr.atI h
    exact .inl ⟨a, xs, i, v, rfl, iy.all.int_inv, Same.seqT hid_sub hs, h1, q _ _ ⟨.refl, ta, h2⟩⟩
  · rename_i l i
    obtain ⟨a, xs, rfl, hs, hr⟩ := ix'.lstL
    obtain ⟨v, h1, h2⟩ := hr.atI h
    exact .inr ⟨a, xs, i, v, rfl, iy.all.int_inv, .inl (.inl (hid_sub _ _ hs)), h1, q _ _ ⟨.refl, ta, h2⟩⟩
  · cases h
theorem fe_ix (ha : FE X tp B fl a .l ma) (hb : FE X tp B fl b kb mb) (hs : PlainIx b := by exact fun _ _ => rfl) : FE X tp B fl (.Subscript a b pos) (.o 0) (mOp oIx ma mb) :=
  PE.imp (pe_ix ix_any ha hb hs) fun _ _ _ h => tOp_of od_ix h
theorem fe_ixB (ha : FE X tp B fl a .b ma) (hb : FE X tp B fl b kb mb) (hs : PlainIx b := by exact fun _ _ => rfl) : FE X tp B fl (.Subscript a b pos) .b (mOp oIx ma mb) :=
  PE.imp (pe_ix ix_any ha hb hs) fun _ _ _ h => tOp_of od_ixB h
/-- an item of ours that is ours -/
theorem fe_ixW {n : Nat} (ha : FE X tp B fl a (.w (n + 1)) ma) (hb : FE X tp B fl b kb mb) (hs : PlainIx b := by exact fun _ _ => rfl) : FE X tp B fl (.Subscript a b pos) (.w n) (mOp oIx ma mb) :=
  PE.imp (pe_ix ix_any ha hb hs) fun σ H Q ⟨Fs, ρ, t, d, t', R, hm, q⟩ => by
    obtain ⟨x, t1, y, h1, h2, h3⟩ := mOp_some hm
    refine ⟨Fs, ρ, t, x, t1, R, h1, fun v1 H1 r1 => ⟨Fs, ρ, t1, y, t', R.step r1.same r1.tape, h2, fun v2 H2 r2 => ?_⟩⟩
    have R1 := R.step r1.same r1.tape
    have R2 := R1.step r2.same r2.tape
    obtain ⟨F, nd, hF, ow⟩ := r1.val
    have ow2 : OwnN X.K tp (n + 1) (hid (ours tp Fs) H2) H2 v1 x F := ow.mono (hid_step R1.ok r2.same) fun b o hb e => r2.same b o e (hF b hb).2
    obtain ⟨a, xs, ds, Gs, rfl, rfl, ha, l1, l2, rfl, r⟩ := ow2
    have h3' : ∃ i, y = .int i ∧ atI ds i = some d := by
      unfold oIx at h3
      split at h3
      · rename_i heq; cases heq
      · rename_i heq; cases heq; exact ⟨_, rfl, h3⟩
      · cases h3
    obtain ⟨i, rfl, h4⟩ := h3'
    unfold L2.atI at h4
    cases e : ixN ds.length i with
    | none => rw [e] at h4; cases h4
    | some j =>
      rw [e] at h4
      have h5 : ds[j]? = some d := h4
      have hj : j < ds.length := (List.getElem?_eq_some_iff.mp h5).1
      have hx : xs[j]? = some (xs[j]'(by omega)) := List.getElem?_eq_getElem (by omega)
      have hG : Gs[j]? = some (Gs[j]'(by omega)) := List.getElem?_eq_getElem (by omega)
      refine .inr ⟨a, xs, i, _, rfl, ((r2.inn R1.ok).all.int_inv), .inl (.inl ha), ?_, q _ H2 ⟨r1.same.trans r2.same, r2.tape, Gs[j]'(by omega), ?_, fun z hz => hF z (List.mem_cons_of_mem _ (List.mem_flatten.mpr ⟨_, List.getElem_mem (by omega), hz⟩)), r j _ d _ hx h5 hG⟩⟩
      · have e' : ixN xs.length i = some j := by rw [l1]; exact e
        unfold L2.atI
        rw [e']
        exact hx
      · have nd2 := (List.nodup_cons.mp nd).2
        exact nd2.sublist (List.sublist_flatten_of_mem (List.getElem_mem (by omega)))
/-! slices -/
def OM := Env → Tape → Option (Option Int × Tape)
def tO (K : PySem.W.Frag) (tp : TP) (B : Hp) (fl : List Nat) (m : OM) : TO := fun σ H Q => ∃ Fs ρ t i t', RelF K tp B fl Fs H σ ρ t ∧ m ρ t = some (i, t') ∧ ∀ H', SameX tp H H' → TapeAt tp H' t' → Q i H'
def FO (X : Cx) (tp : TP) (B : Hp) (fl : List Nat) (e : Option Expr) (m : OM) : Prop := PO X e (tO X.K tp B fl m)
theorem PO.imp {e : Option Expr} {t u : TO} (h : PO X e t) (i : ∀ σ H Q, u σ H Q → t σ H Q) : PO X e u := ⟨fun pins s σ H Q I q => h.run pins s σ H Q I (i σ H Q q)⟩
def mNoO : OM := fun _ t => some (none, t)
def mO (m : EM) : OM := fun ρ t => (m ρ t).bind fun p => match p.1 with
  | .int i => some (some i, p.2)
  | _ => none
theorem fo_none : FO X tp B fl none mNoO := PO.imp po_none fun σ H Q ⟨Fs, ρ, t, i, t', R, hm, q⟩ => by cases hm; exact q H .refl R.tape
theorem fo_some (h : FE X tp B fl e k m) : FO X tp B fl (some e) (mO m) := PO.imp (po_some h) fun σ H Q ⟨Fs, ρ, t, i, t', R, hm, q⟩ => by
  obtain ⟨⟨d, t1⟩, h1, h2⟩ := bind_some hm
  simp only at h2
  split at h2
  · rename_i _ j
    cases h2
    exact ⟨Fs, ρ, t, _, _, R, h1, fun v H1 r => ⟨j, (r.inn R.ok).all.int_inv, q H1 r.same r.tape⟩⟩
  · cases h2
def cutL {α : Type} (xs : List α) (lo hi : Option Int) : List α := (xs.drop (HT.sIx xs.length 0 lo)).take (HT.sIx xs.length xs.length hi - HT.sIx xs.length 0 lo)
theorem cutL_V (xs : List V) (lo hi : Option Int) : cutV xs lo hi = cutL xs lo hi := rfl
theorem RpL.cut {K : PySem.W.Frag} {H : Hp} {xs : List V} {ds : List D} (lo hi : Option Int) (r : RpL K tp H xs ds) : RpL K tp H (cutL xs lo hi) (cutL ds lo hi) := by
  unfold cutL
  rw [← r.1]
  exact (r.drop _).take _
def mSl (f : D → Option Int → Option Int → Option D) (ma : EM) (ml mh : OM) : EM := fun ρ t => (ma ρ t).bind fun p => (ml ρ p.2).bind fun q => (mh ρ q.2).bind fun r => (f p.1 q.1 r.1).map fun d => (d, r.2)
def oSlT (x : D) (lo hi : Option Int) : Option D := match x with
  | .tup l => some (.tup (cutL l lo hi))
  | .str z => if sml z.length = true then some (.str (cutS z lo hi)) else none
  | _ => none
def oSlL (x : D) (lo hi : Option Int) : Option D := match x with
  | .lst l => some (.lst (cutL l lo hi))
  | _ => none
theorem mSl_some {f : D → Option Int → Option Int → Option D} {ml mh : OM} {ρ : Env} {t t' : Tape} {d : D} (h : mSl f ma ml mh ρ t = some (d, t')) : ∃ x t1 lo t2 hi, ma ρ t = some (x, t1) ∧ ml ρ t1 = some (lo, t2) ∧ mh ρ t2 = some (hi, t') ∧ f x lo hi = some d := by
  obtain ⟨⟨x, t1⟩, h1, h2⟩ := bind_some h
  obtain ⟨⟨lo, t2⟩, h3, h4⟩ := bind_some h2
  obtain ⟨⟨hi, t3⟩, h5, h6⟩ := bind_some h4
  simp only at h3 h5 h6
  cases e : f x lo hi with
  | none => rw [e] at h6; cases h6
  | some z => rw [e] at h6; cases h6; exact ⟨x, t1, lo, t2, hi, h1, h3, h5, e⟩
theorem HT_full {α : Type} (xs : List α) (lo hi : Option Int) (h : HT.sIx xs.length 0 lo = 0 ∧ HT.sIx xs.length xs.length hi = xs.length) : cutL xs lo hi = xs := by
  unfold cutL
  rw [h.1, h.2]
  simp
def rSlAny (K : PySem.W.Frag) : V → Option Int → Option Int → Hp → VK → Prop := fun x lo hi H Q => rSlA K x lo hi H Q ∨ rSlS x lo hi H Q
theorem sl_any : SlR X (rSlAny X.K) := SlR.or sl_tupA sl_str
theorem fe_slT {p2 : Pos} {lo hi : Option Expr} {ml mh : OM} (ha : FE X tp B fl a .l ma) (hl : FO X tp B fl lo ml) (hh : FO X tp B fl hi mh) : FE X tp B fl (.Subscript a (.Slice lo hi none p2) pos) (.o 0) (mSl oSlT ma ml mh) :=
  PE.imp (pe_slice sl_any ha hl hh) fun σ H Q ⟨Fs, ρ, t, d, t', R, hm, q⟩ => by
    obtain ⟨x, t1, lo, t2, hi, h1, h2, h3, h4⟩ := mSl_some hm
    refine ⟨Fs, ρ, t, x, t1, R, h1, fun v1 H1 r1 => ?_⟩
    have R1 := R.step r1.same r1.tape
    refine ⟨Fs, ρ, t1, lo, t2, R1, h2, fun H2 s2 ta2 => ?_⟩
    have R2 := R1.step s2 ta2
    refine ⟨Fs, ρ, t2, hi, t', R2, h3, fun H3 s3 ta3 => ?_⟩
    have R3 := R2.step s3 ta3
    have ix : Lv X.K tp (ours tp Fs) H3 v1 x := Lv.step R2.ok s3 (Lv.step R1.ok s2 r1.val)
    have s : SameX tp H H3 := r1.same.trans (s2.trans s3)
    unfold oSlT at h4
    split at h4
    · rename_i l
      cases h4
      have ix' := Lv.tup ix
      obtain ⟨a, xs, rfl, hs, hr⟩ := ix'.tupL
      refine .inl ⟨a, xs, rfl, Same.seqT hid_sub hs, fun hw => ?_, fun hw p hp => ?_⟩
      · rw [hr.1] at hw
        rw [HT_full l lo hi hw] at q
        exact q _ _ (.trans s ta3 (.mk0 .refl ta3 ix'))
      · exact q _ _ (.trans s ta3 (.tupN R3.ok ta3 hp (hr.cut lo hi)))
    · rename_i z
      split at h4
      · rename_i c
        cases h4
        exact .inr ⟨z, by rw [(Lv.all ix).str_inv], Nat.le_trans (of_sml c) (by decide), q _ _ (.trans s ta3 (.sc ta3 rfl))⟩
      · cases h4
    · cases h4
theorem fe_slL {p2 : Pos} {lo hi : Option Expr} {ml mh : OM} (ha : FE X tp B fl a .l ma) (hl : FO X tp B fl lo ml) (hh : FO X tp B fl hi mh) : FE X tp B fl (.Subscript a (.Slice lo hi none p2) pos) (.o 1) (mSl oSlL ma ml mh) :=
  PE.imp (pe_slice sl_list ha hl hh) fun σ H Q ⟨Fs, ρ, t, d, t', R, hm, q⟩ => by
    obtain ⟨x, t1, lo, t2, hi, h1, h2, h3, h4⟩ := mSl_some hm
    refine ⟨Fs, ρ, t, x, t1, R, h1, fun v1 H1 r1 => ?_⟩
    have R1 := R.step r1.same r1.tape
    refine ⟨Fs, ρ, t1, lo, t2, R1, h2, fun H2 s2 ta2 => ?_⟩
    have R2 := R1.step s2 ta2
    refine ⟨Fs, ρ, t2, hi, t', R2, h3, fun H3 s3 ta3 => ?_⟩
    have R3 := R2.step s3 ta3
    have ix : Lv X.K tp (ours tp Fs) H3 v1 x := Lv.step R2.ok s3 (Lv.step R1.ok s2 r1.val)
    have s : SameX tp H H3 := r1.same.trans (s2.trans s3)
    unfold oSlL at h4
    split at h4
    · rename_i l
      cases h4
      obtain ⟨a, xs, rfl, hs, hr⟩ := Lv.lst ix
      exact ⟨a, xs, rfl, .inl (.inl hs), fun p hp => q _ _ (.trans s ta3 (.lstN R3.ok ta3 hp (hr.cut lo hi)))⟩
    · cases h4
/-- xs[::-1] -/
def oRev : D → Option D
  | .lst l => some (.lst l.reverse)
  | _ => none
end
end FL
set_option maxRecDepth 100000
set_option maxHeartbeats 2000000
noncomputable section
namespace FL
open PySem PySem.Spec PyProof.Rows L2

/-! ### the state with new things of ours -/
section
variable {K : PySem.W.Frag} {tp : TP} {B H H' : Hp} {fl : List Nat} {Fs : Ow} {σ : L2.St} {ρ : Env} {t t' : Tape} {E F : List Addr} {S : List (List Addr)} {v : V} {d : D} {n : Nat}
/-- behind an expression that made F -/
theorem RelF.ext (r : RelF K tp B fl Fs H σ ρ t) (s : SameX tp H H') (ta : TapeAt tp H' t') (nd : F.Nodup) (hF : ∀ a ∈ F, H a = none) (hl : ∀ a ∈ F, ∃ xs, H' a = some (.lst xs)) : RelF K tp B fl ⟨F ++ Fs.e, Fs.s⟩ H' σ ρ t' := by
  have eo : ours tp ⟨F ++ Fs.e, Fs.s⟩ = F ++ ours tp Fs := by unfold ours; simp only [List.append_assoc]
  have sub : Same (hid (ours tp Fs) H) (hid (F ++ ours tp Fs) H') := fun b u q => by
    obtain ⟨q1, q2⟩ := hid_some q
    refine hid_of (fun z => ?_) (s b u q2 fun z => q1 (RelF.tsub b z))
    rcases List.mem_append.mp z with z | z
    · rw [hF b z] at q2; cases q2
    · exact q1 z
  refine ⟨r.l1, r.l2, r.l3, ?_, ta, ?_, fun a ha => ?_, r.z, fun i n d G h1 h2 h3 => ?_⟩
  · rw [eo]
    exact List.nodup_append.mpr ⟨nd, r.nd, fun a ha b hb e => by subst e; exact r.ok.new (hF a ha) hb⟩
  · rw [eo]
    exact fun b u q => sub b u (r.base b u q)
  · have ha' : a ∈ F ++ (Fs.e ++ Fs.s.flatten) := by simpa only [List.append_assoc] using ha
    rcases List.mem_append.mp ha' with ha | ha
    · exact hl a ha
    · exact (r.ok.step s ta).ls a (List.mem_append_left _ ha)
  · obtain ⟨w, e, o⟩ := r.slot i n d G h1 h2 h3
    refine ⟨w, e, ?_⟩
    rw [eo]
    refine o.mono sub fun b u hb hu => s b u hu fun z => ?_
    have hb' : b ∈ Fs.e ++ Fs.s.flatten := List.mem_append_right _ (List.mem_flatten.mpr ⟨G, List.mem_of_getElem? h3, hb⟩)
    exact (List.nodup_append.mp r.nd).2.2 b hb' b z rfl
theorem mem_flatten_set {Fs : List (List Addr)} {i : Nat} {F : List Addr} {a : Addr} (h : a ∈ (Fs.set i F).flatten) : a ∈ F ∨ a ∈ Fs.flatten := by
  obtain ⟨G, hG, ha⟩ := List.mem_flatten.mp h
  rcases List.mem_or_eq_of_mem_set hG with z | z
  · exact .inr (List.mem_flatten.mpr ⟨G, z, ha⟩)
  · subst z; exact .inl ha
theorem nodup_set : ∀ {Fs : List (List Addr)} {i : Nat} {F : List Addr}, (F ++ Fs.flatten).Nodup → ((Fs.set i F).flatten).Nodup
  | [], i, F, h => by simp
  | G :: Fs, 0, F, h => by
    simp only [List.set_cons_zero, List.flatten_cons] at h ⊢
    exact h.sublist (List.Sublist.append (List.Sublist.refl _) (List.sublist_append_right _ _))
  | G :: Fs, i + 1, F, h => by
    simp only [List.set_cons_succ, List.flatten_cons] at h ⊢
    have h1 : (F ++ Fs.flatten).Nodup := h.sublist (List.Sublist.append (List.Sublist.refl _) (List.sublist_append_right _ _))
    have ih := nodup_set (i := i) h1
    obtain ⟨n1, n2, n3⟩ := List.nodup_append.mp h
    obtain ⟨n4, n5, n6⟩ := List.nodup_append.mp n2
    refine List.nodup_append.mpr ⟨n4, ih, fun a ha b hb e => ?_⟩
    subst e
    rcases mem_flatten_set hb with z | z
    · exact n3 a z a (List.mem_append_left _ ha) rfl
    · exact n6 a ha a z rfl
/-- what is ours becomes less: the levels tell how -/
theorem RelF.move {fl' : List Nat} {Gs : Ow} {ρ' : Env} {σ' : L2.St} (r : RelF K tp B fl Fs H σ ρ t) (l1 : fl'.length = σ'.length) (l2 : ρ'.length = σ'.length) (l3 : Gs.s.length = σ'.length)
    (memb : ∀ a, a ∈ Gs.e ++ Gs.s.flatten → a ∈ Fs.e ++ Fs.s.flatten) (nd : (Gs.e ++ Gs.s.flatten).Nodup) (hz : ∀ (i : Nat) (F : List Addr), fl'[i]? = some 0 → Gs.s[i]? = some F → F = [])
    (slot : ∀ (i n : Nat) (d : D) (F : List Addr), fl'[i]? = some n → ρ'[i]? = some (some d) → Gs.s[i]? = some F → ∃ v, σ'[i]? = some (some v) ∧ OwnN K tp n (hid (ours tp Gs) H) H v d F) : RelF K tp B fl' Gs H σ' ρ' t := by
  obtain ⟨n1, n2, n3⟩ := List.nodup_append.mp r.nd
  have mm : ∀ a, a ∈ ours tp Gs → a ∈ ours tp Fs := fun a ha => (List.mem_append.mp ha).elim (fun z => List.mem_append_left _ (memb a z)) fun z => List.mem_append_right _ z
  exact ⟨l1, l2, l3, List.nodup_append.mpr ⟨nd, n2, fun a ha b hb e => n3 a (memb a ha) b hb e⟩, r.tape, fun b u q => by
    obtain ⟨q1, q2⟩ := hid_some (r.base b u q)
    exact hid_of (fun z => q1 (mm b z)) q2, fun a ha => r.lists a (memb a ha), hz, slot⟩
theorem sub_ours {Gs : Ow} {H : Hp} (memb : ∀ a, a ∈ Gs.e ++ Gs.s.flatten → a ∈ Fs.e ++ Fs.s.flatten) : Same (hid (ours tp Fs) H) (hid (ours tp Gs) H) := fun b u q => by
  obtain ⟨q1, q2⟩ := hid_some q
  exact hid_of (fun z => q1 ((List.mem_append.mp z).elim (fun z => List.mem_append_left _ (memb b z)) fun z => List.mem_append_right _ z)) q2
/-- a value of ours is stored in slot i -/
theorem RelF.store (r : RelF K tp B fl ⟨F ++ E, S⟩ H σ ρ t) (i : Nat) (ow : OwnN K tp n (hid (ours tp ⟨F ++ E, S⟩) H) H v d F) : RelF K tp B (fl.set i n) ⟨E, S.set i F⟩ H (σ.set i (some v)) (ρ.set i (some d)) t := by
  have l1 := r.l1
  have l2 := r.l2
  have l3 : S.length = σ.length := r.l3
  have memb : ∀ a, a ∈ E ++ (S.set i F).flatten → a ∈ (F ++ E) ++ S.flatten := fun a ha => by
    rcases List.mem_append.mp ha with z | z
    · exact List.mem_append_left _ (List.mem_append_right _ z)
    · rcases mem_flatten_set z with z | z
      · exact List.mem_append_left _ (List.mem_append_left _ z)
      · exact List.mem_append_right _ z
  have nd0 : (F ++ (E ++ S.flatten)).Nodup := by
    have := (List.nodup_append.mp r.nd).1
    simpa only [List.append_assoc] using this
  obtain ⟨m1, m2, m3⟩ := List.nodup_append.mp nd0
  obtain ⟨m4, m5, m6⟩ := List.nodup_append.mp m2
  have sub := sub_ours (Fs := ⟨F ++ E, S⟩) (Gs := ⟨E, S.set i F⟩) (tp := tp) (H := H) memb
  refine r.move (by simp [l1]) (by simp [l2]) (by simp [l3]) memb (List.nodup_append.mpr ⟨m4, nodup_set (List.nodup_append.mpr ⟨m1, m5, fun a ha b hb e => m3 a ha b (List.mem_append_right _ hb) e⟩), fun a ha b hb e => ?_⟩) (fun j G h1 h2 => ?_) fun j m e G h1 h2 h3 => ?_
  · subst e
    rcases mem_flatten_set hb with z | z
    · exact m3 a z a (List.mem_append_left _ ha) rfl
    · exact m6 a ha a z rfl
  · by_cases hj : i = j
    · subst hj
      have hi : i < fl.length := by have := (List.getElem?_eq_some_iff.mp h1).1; simpa using this
      rw [List.getElem?_set_self hi] at h1
      rw [show (Ow.s ⟨E, S.set i F⟩) = S.set i F from rfl, List.getElem?_set_self (by omega)] at h2
      cases h1; cases h2
      exact ow.2
    · rw [List.getElem?_set_ne hj] at h1
      rw [show (Ow.s ⟨E, S.set i F⟩) = S.set i F from rfl, List.getElem?_set_ne hj] at h2
      exact r.z j G h1 h2
  · by_cases hj : i = j
    · subst hj
      have hi : i < ρ.length := by have := (List.getElem?_eq_some_iff.mp h2).1; simpa using this
      rw [List.getElem?_set_self (by omega)] at h1
      rw [List.getElem?_set_self hi] at h2
      rw [show (Ow.s ⟨E, S.set i F⟩) = S.set i F from rfl, List.getElem?_set_self (by omega)] at h3
      cases h1; cases h2; cases h3
      exact ⟨v, by rw [List.getElem?_set_self (by omega)], ow.mono sub fun b u _ q => q⟩
    · rw [List.getElem?_set_ne hj] at h1 h2
      rw [show (Ow.s ⟨E, S.set i F⟩) = S.set i F from rfl, List.getElem?_set_ne hj] at h3
      obtain ⟨w, e1, o⟩ := r.slot j m e G h1 h2 h3
      exact ⟨w, by rw [List.getElem?_set_ne hj]; exact e1, o.mono sub fun b u _ q => q⟩
/-- a frozen value is stored -/
theorem RelF.store0 (r : RelF K tp B fl Fs H σ ρ t) (i : Nat) (h : Rp K tp (hid (ours tp Fs) H) v d) : RelF K tp B (fl.set i 0) ⟨Fs.e, Fs.s.set i []⟩ H (σ.set i (some v)) (ρ.set i (some d)) t :=
  RelF.store (F := []) (E := Fs.e) (S := Fs.s) r i ⟨h, rfl⟩
/-- levels are forgotten -/
theorem RelF.frz1 (r : RelF K tp B fl Fs H σ ρ t) (i : Nat) : RelF K tp B (fl.set i 0) ⟨Fs.e, Fs.s.set i []⟩ H σ ρ t := by
  have l1 := r.l1
  have l2 := r.l2
  have l3 : Fs.s.length = σ.length := r.l3
  have memb : ∀ a, a ∈ Fs.e ++ (Fs.s.set i []).flatten → a ∈ Fs.e ++ Fs.s.flatten := fun a ha => by
    rcases List.mem_append.mp ha with z | z
    · exact List.mem_append_left _ z
    · rcases mem_flatten_set z with z | z
      · cases z
      · exact List.mem_append_right _ z
  have sub := sub_ours (Fs := Fs) (Gs := ⟨Fs.e, Fs.s.set i []⟩) (tp := tp) (H := H) memb
  obtain ⟨n1, n2, n3⟩ := List.nodup_append.mp r.nd
  obtain ⟨m4, m5, m6⟩ := List.nodup_append.mp n1
  refine r.move (by simp [l1]) l2 (by simp [l3]) memb (List.nodup_append.mpr ⟨m4, nodup_set (by simpa using m5), fun a ha b hb e => ?_⟩) (fun j G h1 h2 => ?_) fun j m e G h1 h2 h3 => ?_
  · subst e
    rcases mem_flatten_set hb with z | z
    · cases z
    · exact m6 a ha a z rfl
  · by_cases hj : i = j
    · subst hj
      have hi : i < fl.length := by have := (List.getElem?_eq_some_iff.mp h1).1; simpa using this
      rw [show (Ow.s ⟨Fs.e, Fs.s.set i []⟩) = Fs.s.set i [] from rfl, List.getElem?_set_self (by omega)] at h2
      cases h2; rfl
    · rw [List.getElem?_set_ne hj] at h1
      rw [show (Ow.s ⟨Fs.e, Fs.s.set i []⟩) = Fs.s.set i [] from rfl, List.getElem?_set_ne hj] at h2
      exact r.z j G h1 h2
  · by_cases hj : i = j
    · subst hj
      have hi : i < ρ.length := (List.getElem?_eq_some_iff.mp h2).1
      have hf : i < fl.length := by omega
      have hF : i < Fs.s.length := by omega
      rw [List.getElem?_set_self hf] at h1
      rw [show (Ow.s ⟨Fs.e, Fs.s.set i []⟩) = Fs.s.set i [] from rfl, List.getElem?_set_self hF] at h3
      cases h1; cases h3
      obtain ⟨w, e1, o⟩ := r.slot i _ e _ (List.getElem?_eq_getElem hf) h2 (List.getElem?_eq_getElem hF)
      refine ⟨w, e1, o.rpIn sub fun b u hb hu => hid_of (fun z => ?_) hu, rfl⟩
      have hbF : b ∈ Fs.s.flatten := List.mem_flatten.mpr ⟨_, List.getElem_mem hF, hb⟩
      rcases List.mem_append.mp z with z | z
      · rcases List.mem_append.mp z with z | z
        · exact m6 b z b hbF rfl
        · obtain ⟨G, hG, hbG⟩ := List.mem_flatten.mp z
          obtain ⟨j, hj, eG⟩ := List.mem_iff_getElem.mp hG
          by_cases hij : i = j
          · subst hij
            rw [List.getElem_set_self] at eG
            rw [← eG] at hbG; cases hbG
          · rw [List.getElem_set_ne hij] at eG
            have hj' : j < Fs.s.length := by simpa using hj
            have pw := List.pairwise_iff_getElem.mp (List.pairwise_flatten.mp m5).2
            rw [← eG] at hbG
            rcases Nat.lt_or_gt_of_ne hij with q | q
            · exact pw i j hF hj' q b hb b hbG rfl
            · exact pw j i hj' hF q b hbG b hb rfl
      · exact n3 b (List.mem_append_right _ hbF) b z rfl
    · rw [List.getElem?_set_ne hj] at h1
      rw [show (Ow.s ⟨Fs.e, Fs.s.set i []⟩) = Fs.s.set i [] from rfl, List.getElem?_set_ne hj] at h3
      obtain ⟨w, e1, o⟩ := r.slot j m e G h1 h2 h3
      exact ⟨w, e1, o.mono sub fun b u _ q => q⟩
end

theorem ours_set0 {tp : TP} {Fs : Ow} {i : Nat} {a : Addr} (ha : a ∈ ours tp ⟨Fs.e, Fs.s.set i []⟩) : a ∈ ours tp Fs := by
  rcases List.mem_append.mp ha with z | z
  · rcases List.mem_append.mp z with z | z
    · exact List.mem_append_left _ (List.mem_append_left _ z)
    · rcases mem_flatten_set z with z | z
      · cases z
      · exact List.mem_append_left _ (List.mem_append_right _ z)
  · exact List.mem_append_right _ z
/-! ### targets of frozen values -/
abbrev GM := D → Env → Option Env
/-- what a store of frozen values at ws leaves -/
structure Stored (tp : TP) (fl : List Nat) (ws : List Nat) (Fs Fs' : Ow) (σ σ' : L2.St) : Prop where
  sub : ∀ a, a ∈ ours tp Fs' → a ∈ ours tp Fs
  sup : (∀ j ∈ ws, fl[j]? = some 0) → ∀ a, a ∈ ours tp Fs → a ∈ ours tp Fs'
  len : σ'.length = σ.length
  out : ∀ j, j ∉ ws → σ'[j]? = σ[j]?
def tG (K : PySem.W.Frag) (tp : TP) (B : Hp) (fl fl' ws : List Nat) (m : GM) : TG := fun v σ H Q => ∃ Fs ρ t d ρ', RelF K tp B fl Fs H σ ρ t ∧ Rp K tp (hid (ours tp Fs) H) v d ∧ m d ρ = some ρ' ∧ ∀ σ' Fs', Stored tp fl ws Fs Fs' σ σ' → RelF K tp B fl' Fs' H σ' ρ' t → Q σ' H
def FG (X : Cx) (tp : TP) (B : Hp) (fl fl' ws : List Nat) (tg : Expr) (m : GM) : Prop := PG X tg (tG X.K tp B fl fl' ws m)
abbrev GMs := List D → Env → Option Env
def tGs (K : PySem.W.Frag) (tp : TP) (B : Hp) (fl fl' ws : List Nat) (m : GMs) : TGs := fun vs σ H Q => ∃ Fs ρ t ds ρ', RelF K tp B fl Fs H σ ρ t ∧ RpL K tp (hid (ours tp Fs) H) vs ds ∧ m ds ρ = some ρ' ∧ ∀ σ' Fs', Stored tp fl ws Fs Fs' σ σ' → RelF K tp B fl' Fs' H σ' ρ' t → Q σ' H
def FGs (X : Cx) (tp : TP) (B : Hp) (fl fl' ws : List Nat) (tg : List Expr) (m : GMs) : Prop := PGs X tg (tGs X.K tp B fl fl' ws m)
theorem PG.imp {X : Cx} {e : Expr} {t u : TG} (h : PG X e t) (i : ∀ v σ H Q, u v σ H Q → t v σ H Q) : PG X e u := ⟨fun pins s σ H v u' Q I r q => h.run pins s σ H v u' Q I r (i v σ H Q q)⟩
theorem PGs.imp {X : Cx} {e : List Expr} {t u : TGs} (h : PGs X e t) (i : ∀ v σ H Q, u v σ H Q → t v σ H Q) : PGs X e u := ⟨fun pins s σ H v u' Q I r q => h.run pins s σ H v u' Q I r (i v σ H Q q)⟩
def gmName (i : Nat) : GM := fun d ρ => some (ρ.set i (some d))
def gmTup (n : Nat) (m : GMs) : GM := fun d ρ => match d with
  | .tup ds => if ds.length = n then m ds ρ else none
  | _ => none
def gmNil : GMs := fun ds ρ => match ds with
  | [] => some ρ
  | _ => none
def gmCons (m : GM) (ms : GMs) : GMs := fun ds ρ => match ds with
  | d :: ds => (m d ρ).bind fun ρ1 => ms ds ρ1
  | [] => none
theorem hid_same_of {O O' : List Addr} {H : Hp} (h : ∀ a, a ∈ O' → a ∈ O) : Same (hid O H) (hid O' H) := fun b u q => by
  obtain ⟨q1, q2⟩ := hid_some q
  exact hid_of (fun z => q1 (h b z)) q2
section
variable {X : Cx} {tp : TP} {B : Hp} {fl fl' fl1 ws ws2 : List Nat} {e a b c tg : Expr} {es rest : List Expr} {k ka kb kc : Kd} {m ma mb mc : EM} {ba bb : BM} {mr : AM} {pos : Pos}
theorem stored_set0 {K : PySem.W.Frag} {Fs : Ow} {H : Hp} {σ : L2.St} {ρ : Env} {t : Tape} (R : RelF K tp B fl Fs H σ ρ t) (i : Nat) (v : V) : Stored tp fl [i] Fs ⟨Fs.e, Fs.s.set i []⟩ σ (σ.set i (some v)) := by
  refine ⟨fun a ha => ours_set0 ha, fun h0 a ha => ?_, by simp, fun j hj => ?_⟩
  · have e : Fs.s.set i [] = Fs.s := by
      by_cases hi : i < Fs.s.length
      · have q := R.z i _ (h0 i List.mem_cons_self) (List.getElem?_eq_getElem hi)
        rw [← q, List.set_getElem_self]
      · exact List.set_eq_of_length_le (by omega)
    rw [e]; exact ha
  · rw [List.getElem?_set_ne (fun z => hj (by rw [z]; exact List.mem_cons_self))]
theorem fg_name (i : Nat) {x : Str} (hN : X.N.Nodup) (hi : X.N[i]? = some x := by rfl) (hx : Loc X.env.scope x := by first | exact Or.inl rfl | exact Or.inr rfl) (hf : X.fn x = true ∨ X.env.scope.names.lookup x = some .local := by first | exact .inl rfl | exact .inr rfl) (hfl : fl' = fl.set i 0 := by rfl) : FG X tp B fl fl' [i] (.Name x pos) (gmName i) :=
  PG.imp (pg_name hN hi hx hf) fun v σ H Q ⟨Fs, ρ, t, d, ρ', R, h, hm, q⟩ => by
    cases hm
    subst hfl
    exact q _ _ (stored_set0 R i v) (R.store0 i h)
theorem fgs_nil : FGs X tp B fl fl [] [] gmNil := PGs.imp pgs_nil fun vs σ H Q ⟨Fs, ρ, t, ds, ρ', R, h, hm, q⟩ => by
  unfold gmNil at hm
  split at hm
  · cases hm
    exact ⟨List.eq_nil_of_length_eq_zero (by rw [h.1]; rfl), q _ _ ⟨fun _ z => z, fun _ _ z => z, rfl, fun _ _ => rfl⟩ R⟩
  · cases hm
theorem fgs_cons {m : GM} {ms : GMs} (h1 : FG X tp B fl fl1 ws e m) (h2 : FGs X tp B fl1 fl' ws2 es ms) (hz : (ws.all fun i => fl[i]? == some 0) = false ∨ ∀ j ∈ ws2, fl[j]? = some 0 → fl1[j]? = some 0) (hs : (assignEach (e :: es) X.env).map (·.2) = assign e X.env :: (assignEach es X.env).map (·.2) := by rfl) : FGs X tp B fl fl' (ws ++ ws2) (e :: es) (gmCons m ms) :=
  PGs.imp (pgs_cons h1 h2 hs) fun vs σ H Q ⟨Fs, ρ, t, ds, ρ', R, h, hm, q⟩ => by
    match ds, hm with
    | [], hm => cases hm
    | d :: ds, hm =>
      match vs, h with
      | [], h => exact absurd h.1 (by simp)
      | v :: vs, h =>
        obtain ⟨ρ1, e1, e2⟩ := bind_some hm
        refine ⟨v, vs, rfl, Fs, ρ, t, d, ρ1, R, h.head, e1, fun σ1 Fs1 s1 R1 => ⟨Fs1, ρ1, t, ds, ρ', R1, h.tail.mono (hid_same_of s1.sub), e2, fun σ2 Fs2 s2 R2 => q σ2 Fs2 ?_ R2⟩⟩
        refine ⟨fun a ha => s1.sub a (s2.sub a ha), fun h0 a ha => ?_, s2.len.trans s1.len, fun j hj => ?_⟩
        · have hA : ∀ j ∈ ws, fl[j]? = some 0 := fun j hj => h0 j (List.mem_append_left _ hj)
          rcases hz with hz | hz
          · have ht : (ws.all fun i => fl[i]? == some 0) = true := List.all_eq_true.mpr fun j hj => by rw [hA j hj]; rfl
            rw [hz] at ht; cases ht
          · exact s2.sup (fun j hj => hz j hj (h0 j (List.mem_append_right _ hj))) a (s1.sup hA a ha)
        · rw [s2.out j fun z => hj (List.mem_append_right _ z), s1.out j fun z => hj (List.mem_append_left _ z)]
theorem fg_tup {ms : GMs} {n kk : Nat} (hc : X.calm = true) (h : FGs X tp B fl fl' ws es ms) (hn : (assignEach es X.env).length = n := by rfl) (hst : (assignEach es X.env).findIdx? (·.1) = none := by rfl) : FG X tp B fl fl' ws (.Tuple es kk pos) (gmTup n ms) :=
  PG.imp (pg_tup hc h hn hst) fun v σ H Q ⟨Fs, ρ, t, d, ρ', R, h, hm, q⟩ => by
    unfold gmTup at hm
    split at hm
    · rename_i ds
      split at hm
      · rename_i hl
        obtain ⟨a, xs, rfl, hs, hr⟩ := h.tupL
        exact ⟨a, xs, rfl, Same.seqT hid_sub hs, by rw [hr.1]; exact hl, Fs, ρ, t, ds, ρ', R, hr, hm, q⟩
      · cases hm
    · cases hm

/-! ### statements -/
inductive Out where
  | nx (ρ : Env) (t : Tape) | rt (d : D) (t : Tape) | bk (ρ : Env) (t : Tape) | ct (ρ : Env) (t : Tape)
abbrev SM := Env → Tape → Option Out
/-- what comes back, from B on -/
structure RetB (K : PySem.W.Frag) (tp : TP) (B : Hp) (lv : Nat) (d : D) (t' : Tape) (v : V) (H' : Hp) : Prop where
  tape : TapeAt tp H' t'
  base : Same B (hid (tpl tp) H')
  val : ∃ F : List Addr, F.Nodup ∧ (∀ a ∈ F, B a = none ∧ a ∉ tpl tp) ∧ OwnN K tp lv (hid (F ++ tpl tp) H') H' v d F
def tS (K : PySem.W.Frag) (tp : TP) (B : Hp) (lv : Nat) (lp fl fl' : List Nat) (m : SM) : TS := fun Z σ H => ∃ Fs ρ t o, RelF K tp B fl Fs H σ ρ t ∧ m ρ t = some o ∧ match o with
  | .nx ρ' t' => ∀ σ' H' Fs', RelF K tp B fl' Fs' H' σ' ρ' t' → Z.nx σ' H'
  | .rt d t' => ∀ v H', RetB K tp B lv d t' v H' → Z.rt v H'
  | .bk ρ' t' => ∀ σ' H' Fs', RelF K tp B lp Fs' H' σ' ρ' t' → Z.bk σ' H'
  | .ct ρ' t' => ∀ σ' H' Fs', RelF K tp B lp Fs' H' σ' ρ' t' → Z.ct σ' H'
def FS (X : Cx) (tp : TP) (B : Hp) (lv : Nat) (lp fl fl' : List Nat) (st : Stmt) (m : SM) : Prop := PS X st (tS X.K tp B lv lp fl fl' m)
def FSs (X : Cx) (tp : TP) (B : Hp) (lv : Nat) (lp fl fl' : List Nat) (st : List Stmt) (m : SM) : Prop := PSs X st (tS X.K tp B lv lp fl fl' m)
def mSkip : SM := fun ρ t => some (.nx ρ t)
def mSeq (m1 m2 : SM) : SM := fun ρ t => (m1 ρ t).bind fun o => match o with
  | .nx ρ' t' => m2 ρ' t'
  | o => some o
variable {lv : Nat} {lp fl2 : List Nat} {st : Stmt} {sts sts2 : List Stmt} {sm sm1 sm2 : SM}
theorem fss_nil : FSs X tp B lv lp fl fl [] mSkip := PSs.imp pss_nil fun Z σ H ⟨Fs, ρ, t, o, R, hm, q⟩ => by
  cases hm
  exact q σ H Fs R
theorem fss_one (h : FS X tp B lv lp fl fl' st sm) : FSs X tp B lv lp fl fl' [st] sm := pss_one h
theorem fss_cons (h1 : FS X tp B lv lp fl fl1 st sm1) (h2 : FSs X tp B lv lp fl1 fl' sts sm2) : FSs X tp B lv lp fl fl' (st :: sts) (mSeq sm1 sm2) :=
  PSs.imp (pss_cons h1 h2) fun Z σ H ⟨Fs, ρ, t, o, R, hm, q⟩ => by
    obtain ⟨o1, e1, e2⟩ := bind_some hm
    cases o1 with
    | nx ρ1 t1 => exact ⟨Fs, ρ, t, _, R, e1, fun σ1 H1 Fs1 R1 => ⟨Fs1, ρ1, t1, o, R1, e2, q⟩⟩
    | rt d t1 => cases e2; exact ⟨Fs, ρ, t, _, R, e1, q⟩
    | bk ρ1 t1 => cases e2; exact ⟨Fs, ρ, t, _, R, e1, q⟩
    | ct ρ1 t1 => cases e2; exact ⟨Fs, ρ, t, _, R, e1, q⟩
theorem fs_pass : FS X tp B lv lp fl fl (.Pass pos) mSkip := PS.imp ps_pass fun Z σ H ⟨Fs, ρ, t, o, R, hm, q⟩ => by
  cases hm
  exact q σ H Fs R
def mBreak : SM := fun ρ t => some (.bk ρ t)
def mCont : SM := fun ρ t => some (.ct ρ t)
def mNever : SM := fun _ _ => none
theorem fs_break : FS X tp B lv lp lp fl' (.Break pos) mBreak := PS.imp ps_break fun Z σ H ⟨Fs, ρ, t, o, R, hm, q⟩ => by
  cases hm
  exact q σ H Fs R
theorem fs_cont : FS X tp B lv lp lp fl' (.Continue pos) mCont := PS.imp ps_continue fun Z σ H ⟨Fs, ρ, t, o, R, hm, q⟩ => by
  cases hm
  exact q σ H Fs R
theorem fs_never : FS X tp B lv lp fl fl' st mNever := PS.imp ps_never fun Z σ H ⟨Fs, ρ, t, o, R, hm, q⟩ => by cases hm
def mIf (c : BM) (m1 m2 : SM) : SM := fun ρ t => (c ρ t).bind fun p => if p.1 = true then m1 ρ p.2 else m2 ρ p.2
theorem fs_if (hc : FT X tp B fl c ba) (ha : FSs X tp B lv lp fl fl' sts sm1) (hb : FSs X tp B lv lp fl fl' sts2 sm2) : FS X tp B lv lp fl fl' (.If c sts sts2 pos) (mIf ba sm1 sm2) :=
  PS.imp (ps_if hc ha hb) fun Z σ H ⟨Fs, ρ, t, o, R, hm, q⟩ => by
    obtain ⟨⟨z, t1⟩, h1, h2⟩ := bind_some hm
    refine ⟨Fs, ρ, t, z, t1, R, h1, fun H1 s1 ta1 => ?_⟩
    cases z with
    | true =>
      simp only [if_true] at h2 ⊢
      exact ⟨Fs, ρ, t1, o, R.step s1 ta1, h2, q⟩
    | false =>
      simp only [Bool.false_eq_true, if_false] at h2 ⊢
      exact ⟨Fs, ρ, t1, o, R.step s1 ta1, h2, q⟩
/-- levels forgotten at the end -/
theorem FSs.weak (i : Nat) (h : FSs X tp B lv lp fl fl' sts sm) : FSs X tp B lv lp fl (fl'.set i 0) sts sm := PSs.imp h fun Z σ H ⟨Fs, ρ, t, o, R, hm, q⟩ => by
  refine ⟨Fs, ρ, t, o, R, hm, ?_⟩
  cases o with
  | nx ρ' t' => exact fun σ' H' Fs' R' => q σ' H' _ (R'.frz1 i)
  | rt d t' => exact q
  | bk ρ' t' => exact q
  | ct ρ' t' => exact q
/-- .. and at the start -/
theorem FSs.weak0 (i : Nat) (h : FSs X tp B lv lp (fl.set i 0) fl' sts sm) : FSs X tp B lv lp fl fl' sts sm := PSs.imp h fun Z σ H ⟨Fs, ρ, t, o, R, hm, q⟩ =>
  ⟨_, ρ, t, o, R.frz1 i, hm, q⟩
def mRet (m : EM) : SM := fun ρ t => (m ρ t).map fun p => .rt p.1 p.2
theorem mRet_some {ρ : Env} {t : Tape} {o : Out} (h : mRet m ρ t = some o) : ∃ d t', m ρ t = some (d, t') ∧ o = .rt d t' := by
  unfold mRet at h
  cases e : m ρ t with
  | none => rw [e] at h; cases h
  | some p => rw [e] at h; cases h; exact ⟨p.1, p.2, rfl, rfl⟩
theorem base_in {K : PySem.W.Frag} {Fs : Ow} {H H' : Hp} {σ : L2.St} {ρ : Env} {t : Tape} (R : RelF K tp B fl Fs H σ ρ t) (s : SameX tp H H') : Same B (hid (tpl tp) H') := fun b u q => by
  obtain ⟨q1, q2⟩ := hid_some (R.base b u q)
  exact hid_of (fun z => q1 (RelF.tsub b z)) (s b u q2 fun z => q1 (RelF.tsub b z))
theorem new_base {K : PySem.W.Frag} {Fs : Ow} {H : Hp} {σ : L2.St} {ρ : Env} {t : Tape} (R : RelF K tp B fl Fs H σ ρ t) {a : Addr} (h : H a = none) : B a = none := by
  cases e : B a with
  | none => rfl
  | some o =>
    have q := (hid_some (R.base a o e)).2
    rw [h] at q; cases q
theorem ours_base {K : PySem.W.Frag} {Fs : Ow} {H : Hp} {σ : L2.St} {ρ : Env} {t : Tape} (R : RelF K tp B fl Fs H σ ρ t) {a : Addr} (h : a ∈ ours tp Fs) : B a = none := by
  cases e : B a with
  | none => rfl
  | some o => exact absurd h (hid_some (R.base a o e)).1
theorem fs_ret (h : FE X tp B fl e (.o lv) m) : FS X tp B lv lp fl fl' (.Return (some e) pos) (mRet m) := PS.imp (ps_ret h) fun Z σ H ⟨Fs, ρ, t, o, R, hm, q⟩ => by
  obtain ⟨d, t', h1, rfl⟩ := mRet_some hm
  refine ⟨Fs, ρ, t, d, t', R, h1, fun v H' r => q v H' ⟨r.tape, base_in R r.same, ?_⟩⟩
  obtain ⟨F, nd, hF, ow⟩ := r.val
  refine ⟨F, nd, fun a ha => ⟨new_base R (hF a ha), fun z => R.ok.new (hF a ha) (RelF.tsub a z)⟩, ow.mono (hid_same_of fun a ha => ?_) fun b o _ q => q⟩
  rcases List.mem_append.mp ha with z | z
  · exact List.mem_append_left _ z
  · exact List.mem_append_right _ (RelF.tsub a z)
/-- what is ours is handed back -/
theorem fs_retW (h : FE X tp B fl e (.w lv) m) : FS X tp B lv lp fl fl' (.Return (some e) pos) (mRet m) := PS.imp (ps_ret h) fun Z σ H ⟨Fs, ρ, t, o, R, hm, q⟩ => by
  obtain ⟨d, t', h1, rfl⟩ := mRet_some hm
  refine ⟨Fs, ρ, t, d, t', R, h1, fun v H' r => q v H' ⟨r.tape, base_in R r.same, ?_⟩⟩
  obtain ⟨F, nd, hF, ow⟩ := r.val
  refine ⟨F, nd, fun a ha => ⟨ours_base R (hF a ha).1, (hF a ha).2⟩, ow.mono (hid_same_of fun a ha => ?_) fun b o _ q => q⟩
  rcases List.mem_append.mp ha with z | z
  · exact (hF a z).1
  · exact RelF.tsub a z
def mRetN : SM := fun _ t => some (.rt .non t)
/-- name = e -/
def mSet (i : Nat) (m : EM) : SM := fun ρ t => (m ρ t).map fun p => .nx (ρ.set i (some p.1)) p.2
theorem mSet_some {i : Nat} {ρ : Env} {t : Tape} {o : Out} (h : mSet i m ρ t = some o) : ∃ d t', m ρ t = some (d, t') ∧ o = .nx (ρ.set i (some d)) t' := by
  unfold mSet at h
  cases e : m ρ t with
  | none => rw [e] at h; cases h
  | some p => rw [e] at h; cases h; exact ⟨p.1, p.2, rfl, rfl⟩
theorem fs_set (i : Nat) {n : Nat} {x : Str} {pos' : Pos} (hN : X.N.Nodup) (h : FE X tp B fl e (.o n) m) (hi : X.N[i]? = some x := by rfl) (hx : Loc X.env.scope x := by first | exact Or.inl rfl | exact Or.inr rfl) (hf : X.fn x = true ∨ X.env.scope.names.lookup x = some .local := by first | exact .inl rfl | exact .inr rfl)
    (hs : swapsWith e (some (.Name x pos')) pos.line X.env = pure false := by rfl) (hfl : fl' = fl.set i n := by rfl) : FS X tp B lv lp fl fl' (.Assign [.Name x pos'] e pos) (mSet i m) :=
  PS.imp (ps_set hN hi hx h hs hf) fun Z σ H ⟨Fs, ρ, t, o, R, hm, q⟩ => by
    obtain ⟨d, t', h1, rfl⟩ := mSet_some hm
    subst hfl
    refine ⟨Fs, ρ, t, d, t', R, h1, fun v H' r => ?_⟩
    obtain ⟨F, nd, hF, ow⟩ := r.val
    refine q _ _ _ (RelF.store (F := F) (E := Fs.e) (S := Fs.s) (R.ext r.same r.tape nd hF ow.lists) i ?_)
    have eo : ours tp ⟨F ++ Fs.e, Fs.s⟩ = F ++ ours tp Fs := by unfold ours; simp only [List.append_assoc]
    rw [eo]
    exact ow
/-- target = e, frozen parts -/
def mAsg (m : EM) (g : GM) : SM := fun ρ t => (m ρ t).bind fun p => (g p.1 ρ).map fun ρ' => .nx ρ' p.2
theorem mAsg_some {g : GM} {ρ : Env} {t : Tape} {o : Out} (h : mAsg m g ρ t = some o) : ∃ d t' ρ', m ρ t = some (d, t') ∧ g d ρ = some ρ' ∧ o = .nx ρ' t' := by
  obtain ⟨⟨d, t'⟩, h1, h2⟩ := bind_some h
  simp only at h2
  cases e : g d ρ with
  | none => rw [e] at h2; cases h2
  | some z => rw [e] at h2; cases h2; exact ⟨d, t', z, h1, e, rfl⟩
theorem fs_asg {g : GM} (h : FE X tp B fl e (.o 0) m) (hg : FG X tp B fl fl' ws tg g) (hs : swapsWithSole [tg] e pos.line X.env = pure false := by rfl) (hw : swappedStores [tg] e X.env = pure none := by rfl)
    (h1 : (assignEach [tg] X.env).map (·.2) = [assign tg X.env] := by rfl) : FS X tp B lv lp fl fl' (.Assign [tg] e pos) (mAsg m g) :=
  PS.imp (ps_asg h hg hs hw h1) fun Z σ H ⟨Fs, ρ, t, o, R, hm, q⟩ => by
    obtain ⟨d, t', ρ', h1, h2, rfl⟩ := mAsg_some hm
    refine ⟨Fs, ρ, t, d, t', R, h1, fun v H' r => ?_⟩
    exact ⟨Fs, ρ, t', d, ρ', R.step r.same r.tape, r.frz R.ok, h2, fun σ' Fs' _ R' => q σ' H' Fs' R'⟩
/-- an expression whose value is dropped -/
def mDrop (m : EM) : SM := fun ρ t => (m ρ t).map fun p => .nx ρ p.2
theorem fs_expr (h : FE X tp B fl e k m) (hs : swapsWith e none pos.line X.env = pure false := by rfl) : FS X tp B lv lp fl fl (.Expr e pos) (mDrop m) := PS.imp (ps_expr h hs) fun Z σ H ⟨Fs, ρ, t, o, R, hm, q⟩ => by
  unfold mDrop at hm
  cases e : m ρ t with
  | none => rw [e] at hm; cases hm
  | some p =>
    rw [e] at hm; cases hm
    exact ⟨Fs, ρ, t, p.1, p.2, R, e, fun v H' r => q _ _ _ (R.step r.same r.tape)⟩
end
end FL
set_option maxRecDepth 100000
set_option maxHeartbeats 2000000
noncomputable section
namespace FL
open PySem PySem.Spec PyProof.Rows L2

/-! ### enumerate of a tuple -/
theorem new_enumT (l : Addr) (items : Array Value) (ob : Obj) (hc : ob.cls = .type "tuple") (n : Nat) (hd : ob.data = .seq items n) :
    Meets (Builtin.«enumerate.__new__» ⟨[.type "enumerate", .ref l], []⟩) (fun _ R s => s.heap.get? l = some ob ∧
      R (.ok (.ret (.ref (s.heap.push { cls := .type "tuple_iterator", data := .fields #[.ref l, .int 0 0] }).objs.size)))
        { s with heap := (s.heap.push { cls := .type "tuple_iterator", data := .fields #[.ref l, .int 0 0] }).push { cls := .type "enumerate", data := .fields #[.none, .bool false, .ref s.heap.objs.size, rawInt 0, .none, .none] } }) :=
  .of_wp fun prog w A R s h => by
    obtain ⟨hp, g, d, tk, os⟩ := s; obtain ⟨hl, h⟩ := h
    have hsub := sub_enumerate
    have hT : Heap.IsTuple (Shared.heap ⟨hp, g, d, tk, os⟩) l items := ⟨ob, hl, hc, n, hd⟩
    obtain ⟨oc, od, odt, os'⟩ := ob
    simp only at hc hd
    subst hc hd
    wp_walk using AutoSeq1.wpAny_loadPart' hl
    refine wpAny_stack_any fun st => wpAny_pure ?_
    split
    · rename_i c _ _ _ _ _
      cases (c == Value.type "enumerate")
      · wp_walk using AutoSeq1.wpAny_loadPart' hl, wpAny_pyIter_tuple hT; exact ⟨_, rfl, h⟩
      · wp_walk using AutoSeq1.wpAny_loadPart' hl, wpAny_pyIter_tuple hT; exact ⟨_, rfl, h⟩
    · wp_walk using AutoSeq1.wpAny_loadPart' hl, wpAny_pyIter_tuple hT; exact ⟨_, rfl, h⟩
section
variable {prog : Program} {w : World} {A : Around} {E : Value → Shared → Prop} {s : Shared}
theorem call_enumT {l : Addr} {items : Array Value} {Q : Value → Shared → Prop} (hL : s.heap.IsTuple l items)
    (h : ∀ h', IsEnum h' (s.heap.objs.size + 1) s.heap.objs.size 0 .none → h'.IsTupleIter s.heap.objs.size l 0 → h'.objs.size = s.heap.objs.size + 2 →
      (∀ b o, s.heap.get? b = some o → h'.get? b = some o) → Q (.ref (s.heap.objs.size + 1)) { s with heap := h' }) : wpAny (model prog w) A (call (.type "enumerate") [.ref l]) Q E s := by
  obtain ⟨ob, hl, hc, n, hd⟩ := hL
  refine callType_new F.called_enumerate (by decide) (F.typeCall_enumerate_1 _) (F.newCall_enumerate_1 _) (fun obj => F.args_object_init_2 obj _) F.entry_enumerate_new (new_enumT l items ob hc n hd) ⟨hl, ?_⟩
  generalize hI : ({ cls := .type "tuple_iterator", data := .fields #[.ref l, .int 0 0] } : Obj) = oI
  have hz : (s.heap.push oI).objs.size = s.heap.objs.size + 1 := Heap.size_push ..
  show _ ∧ _
  rw [hz]
  generalize hE : ({ cls := .type "enumerate", data := .fields #[.none, .bool false, .ref s.heap.objs.size, rawInt 0, .none, .none] } : Obj) = oE
  have he : ((s.heap.push oI).push oE).get? (s.heap.objs.size + 1) = some oE := by
    have q := Heap.get?_push_size (s.heap.push oI) (o := oE) (by rw [← hE]; rfl)
    rw [hz] at q; exact q
  have hi : ((s.heap.push oI).push oE).get? s.heap.objs.size = some oI := Heap.get?_push_of_some _ (Heap.get?_push_size _ (by rw [← hI]; rfl))
  refine ⟨⟨_, he, by rw [← hE]⟩, h _ ?_ ⟨oI, hi, by rw [← hI], by rw [← hI]; rfl⟩ (by rw [Heap.size_push, hz]) fun b o x => Heap.get?_push_of_some _ (Heap.get?_push_of_some _ x)⟩
  rw [← hE] at he ⊢
  exact he
end
/-- enumerate of the tuple at a, as it stands -/
def IteT (K : PySem.W.Frag) (a : Addr) : It :=
  ⟨fun i H => ∃ (xs : List V) (x : V), SqT K H a xs ∧ xs[i]? = some x, fun i H v H' => ∃ T x, v = .ref T ∧ H T = none ∧ H' = upd H T (.tup [.int (i : Nat), x]) ∧ ∀ xs, SqT K H a xs → xs[i]? = some x,
    fun i H => ∃ xs : List V, SqT K H a xs ∧ xs.length ≤ i⟩
theorem turn_enumT {P : Program} {w : World} {K : PySem.W.Frag} {elts : List Expr} {kk : Nat} {tpos : Pos} (a e it : Addr) :
    Turn P w K (.Tuple elts kk tpos) (IteT K a) [e, it] e (fun i h => (∃ old, IsEnum h e it ((i : Nat) : Int) old) ∧ h.IsTupleIter it a i ∧ e ≠ it ∧ a ≠ it ∧ e ≠ a) where
  mem := by simp
  obj := fun i h st b hb => by
    obtain ⟨⟨old, he⟩, ⟨o, ho, hc, hd⟩, _⟩ := st
    rcases List.mem_cons.mp hb with z | z
    · subst z; exact ⟨_, he, fun v q => nomatch q⟩
    · rw [List.mem_singleton.mp z]; exact ⟨o, ho, fun v q => by rw [hd] at q; cases q⟩
  keep := fun i h h' st k => let ⟨⟨old, he⟩, hi, hne⟩ := st; ⟨⟨old, k e List.mem_cons_self _ he⟩, hi.at fun o q => k it (List.mem_cons_of_mem _ List.mem_cons_self) o q, hne⟩
  item := by
    intro X hP hw hK hc i pins s σ H E I hf st hg
    subst hP hw hK
    obtain ⟨⟨old, he⟩, hit, hne, hai, hea⟩ := st
    obtain ⟨xs, x, hq, hx⟩ := hg
    obtain ⟨its, rv, p, hz⟩ := I.tuple hq
    obtain ⟨u, hu, ru⟩ := rv.get hx
    have hel : e < s.heap.objs.size := Heap.lt_size he
    have hil : it < s.heap.objs.size := by obtain ⟨_, q, _⟩ := hit; exact Heap.lt_size q
    have hlt : i < its.length := (List.getElem?_eq_some_iff.mp hu).1
    have D := Draws.tuple (prog := X.prog) (w := X.w) (A := X.A.in1) (I.ok.hd hc) it a hai its.toArray
    refine wpAny_pyNext_enum_itemD D he ⟨hit, p⟩ (by simpa using hlt) hne (by simp [hne, hea]) fun y h' tk hy ho hst' hT hsz hk => ?_
    have ey : y = u := by
      have hy' : its.toArray[i]? = some y := hy
      rw [List.getElem?_toArray, hu] at hy'
      exact (Option.some.inj hy').symm
    subst ey
    refine ⟨_, rfl, wpAny_letOwnedTupleGo_enum (s := { s with heap := h', toks := tk + 1 }) ho fun h'' he' sb => ?_⟩
    have hT2 := (sb.2 _ (Nat.ne_of_gt hel)).trans hT
    have new : ObjOk X.prog X.w (upd H s.heap.objs.size (.tup [.int (i : Nat), x])) h'' s.heap.objs.size (.tup [.int (i : Nat), x]) :=
      ⟨by show 2 ≤ sizeLine; decide, [.int i tk, y], .cons ⟨_, rfl⟩ (.cons ru .nil), ⟨_, hT2, rfl, _, rfl⟩⟩
    have I1 : Inv X pins σ (upd H s.heap.objs.size (.tup [.int (i : Nat), x])) { s with heap := h'', toks := tk + 1 } :=
      I.turnedNew (ch := [e, it]) (fun b ob hb q => (sb.2 b (fun z => hb (by simp [z]))).trans (hk b ob (fun z => hb (by simp [z])) (fun z => hb (by simp [z])) q)) hf (Nat.le_refl _) new
    refine ⟨.ref s.heap.objs.size, _, I1, rfl, ⟨_, x, rfl, I.hok.fresh (Nat.le_refl _), rfl, fun ys hy => by rw [I.tuple_inj hy hq]; exact hx⟩, ⟨⟨y, ?_⟩, hst'.1.at fun o q => (sb.2 it (Ne.symm hne)).trans q, hne, hai, hea⟩, fun b hb => ?_⟩
    · have e1 : ((i + 1 : Nat) : Int) = (i : Int) + 1 := by omega
      rw [e1]; exact he'
    · have hb' : b < s.heap.objs.size := by
        rcases List.mem_cons.mp hb with z | z
        · rw [z]; exact hel
        · rw [List.mem_singleton.mp z]; exact hil
      rw [upd_ne (Nat.ne_of_lt hb')]
      exact (hf b hb).1
  done := by
    intro X hP hw hK hc i pins s σ H E I hf st hg
    subst hP hw hK
    obtain ⟨⟨old, he⟩, hit, hne, hai, hea⟩ := st
    obtain ⟨xs, hq, hx⟩ := hg
    obtain ⟨its, rv, p, hz⟩ := I.tuple hq
    obtain ⟨f0, f1, f2, f3, f4, f5⟩ := hf it (List.mem_cons_of_mem _ List.mem_cons_self)
    have hl := rv.length
    have hne' : its.toArray[i]? = none := by simp; omega
    have hT : s.TypeIs (.ref e) "enumerate" := ⟨_, he, rfl⟩
    unfold pyNext
    refine wpAny_bind (wpAny_attempt (wpAny_callSpecial?_slot (name := Str.ofString "__next__") hT F.slot_enumerate_next
      (wpAny_call_entry F.slot_enumerate_next hT F.entry_enumerate_next ?_ (F.args_enumerate_next_1 _))))
    show wpAny _ _ (field (.ref e) 2 >>= _) _ _ _
    refine wpAny_bind (wpAny_field he rfl (x := .ref it) rfl ?_)
    refine wpAny_bind (wpAny_nextOf_tuple_end (show X.A.in1.in1.handled = none from I.ok.hd hc) hit p hne' fun h' x he' hx' => ?_)
    obtain ⟨o, ho, hc'⟩ := hx'
    refine wpAny_bind (wpAny_isInstance (T := "StopIteration") (b := true) ⟨o, ho, hc'⟩ isSubtype_stop (wpAny_pure ?_))
    exact ⟨rfl, I.turned (t' := s.toks) (fun b o hb q => he' b o hb q) f0 f1 f3 f4 f5⟩
  self := fun A i s Q E st h => let ⟨⟨_, he⟩, _⟩ := st; wpAny_pyIter_enum he h
end FL
set_option maxRecDepth 100000
set_option maxHeartbeats 2000000
noncomputable section
namespace FL
open PySem PySem.Spec PyProof.Rows L2

/-! ### what a loop walks -/
/-- J gives ds, one after another, as long as all of Z stands -/
def ItD (K : PySem.W.Frag) (tp : TP) (Z : Hp) (J : It) (ds : List D) : Prop :=
  ∃ Y, Walk J ds.length (fun H => Same Z H) Y ∧ ∀ (i : Nat) (H : Hp) (v : V) (H' : Hp) (d : D), ds[i]? = some d → Same Z H → Y i H v H' →
    (H' = H ∧ Rp K tp Z v d) ∨ ∃ (p : Addr) (xs : List V) (es : List D), H p = none ∧ v = .ref p ∧ H' = upd H p (.tup xs) ∧ d = .tup es ∧ RpL K tp Z xs es
abbrev IM := Env → Tape → Option (List D × Tape)
def tI (K : PySem.W.Frag) (tp : TP) (B : Hp) (fl : List Nat) (m : IM) : TI := fun σ H R => ∃ Fs ρ t ds t', RelF K tp B fl Fs H σ ρ t ∧ m ρ t = some (ds, t') ∧ ∀ J H1, SameX tp H H1 → TapeAt tp H1 t' → ItD K tp (hid (ours tp Fs) H1) J ds → R J H1
def FI (X : Cx) (tp : TP) (B : Hp) (fl : List Nat) (tg e : Expr) (m : IM) : Prop := PI X tg e (tI X.K tp B fl m)
theorem PI.imp {X : Cx} {tg e : Expr} {t u : TI} (h : PI X tg e t) (i : ∀ σ H R, u σ H R → t σ H R) : PI X tg e u := ⟨fun pins s σ H R I q => h.run pins s σ H R I (i σ H R q)⟩
section
variable {K : PySem.W.Frag} {tp : TP} {Z : Hp} {ds es : List D} {xs ys : List V} {a b : Addr}
theorem itd_tup (q : SqT K Z a xs) (r : RpL K tp Z xs ds) : ItD K tp Z (Itt K a) ds := by
  have e : ds.length = xs.length := r.1.symm
  refine ⟨YAt xs, by rw [e]; exact walk_tup.mono (fun H s => Same.seqT s q) fun _ _ _ _ _ _ y => y, fun i H v H' d h1 s y => .inl ⟨y.1, r.2 i v d y.2 h1⟩⟩
theorem itd_lst (q : Z a = some (.lst xs)) (r : RpL K tp Z xs ds) : ItD K tp Z (Itl K a) ds := by
  have e : ds.length = xs.length := r.1.symm
  refine ⟨YAt xs, by rw [e]; exact walk_list.mono (fun H s => .inl (.inl (s _ _ q))) fun _ _ _ _ _ _ y => y, fun i H v H' d h1 s y => .inl ⟨y.1, r.2 i v d y.2 h1⟩⟩
theorem itd_range (lo : Int) (n : Nat) : ItD K tp Z (Itr lo n) ((List.range n).map fun (i : Nat) => D.int (lo + i)) := by
  refine ⟨YFn fun i => .int (lo + i), by rw [List.length_map, List.length_range]; exact walk_range.mono (fun _ _ => trivial) fun _ _ _ _ _ _ y => y, fun i H v H' d h1 s y => .inl ⟨y.1, ?_⟩⟩
  obtain ⟨_, rfl⟩ := y
  rw [List.getElem?_map] at h1
  cases e : (List.range n)[i]? with
  | none => rw [e] at h1; cases h1
  | some j =>
    rw [e] at h1
    have : j = i := by
      obtain ⟨hi, q⟩ := List.getElem?_eq_some_iff.mp e
      rw [List.getElem_range] at q
      exact q.symm
    subst this
    cases h1
    exact .int _
theorem itd_rangeC (lo c : Int) (n : Nat) : ItD K tp Z (Itc lo c n) ((List.range n).map fun (i : Nat) => D.int (lo + (i : Int) * c)) := by
  refine ⟨YFn fun i => .int (lo + (i : Nat) * c), by rw [List.length_map, List.length_range]; exact walk_rangeC.mono (fun _ _ => trivial) fun _ _ _ _ _ _ y => y, fun i H v H' d h1 s y => .inl ⟨y.1, ?_⟩⟩
  obtain ⟨_, rfl⟩ := y
  rw [List.getElem?_map] at h1
  cases e : (List.range n)[i]? with
  | none => rw [e] at h1; cases h1
  | some j =>
    rw [e] at h1
    have : j = i := by
      obtain ⟨hi, q⟩ := List.getElem?_eq_some_iff.mp e
      rw [List.getElem_range] at q
      exact q.symm
    subst this
    cases h1
    exact .int _
def dZip : List D → List D → List D
  | x :: xs, y :: ys => .tup [x, y] :: dZip xs ys
  | _, _ => []
theorem dZip_len : ∀ (l m : List D), (dZip l m).length = min l.length m.length
  | [], _ => by simp [dZip]
  | _ :: _, [] => by simp [dZip]
  | x :: xs, y :: ys => by simp only [dZip, List.length_cons, dZip_len xs ys]; omega
theorem dZip_get : ∀ (l m : List D) (i : Nat) (d : D), (dZip l m)[i]? = some d → ∃ x y, l[i]? = some x ∧ m[i]? = some y ∧ d = .tup [x, y]
  | [], _, _, _, h => by simp [dZip] at h
  | _ :: _, [], _, _, h => by simp [dZip] at h
  | x :: xs, y :: ys, 0, d, h => by simp [dZip] at h; exact ⟨x, y, rfl, rfl, h.symm⟩
  | x :: xs, y :: ys, i + 1, d, h => by simpa using dZip_get xs ys i d (by simpa [dZip] using h)
def dEnum (n : Nat) : List D → List D
  | [] => []
  | x :: xs => .tup [.int n, x] :: dEnum (n + 1) xs
theorem dEnum_len : ∀ (l : List D) (n : Nat), (dEnum n l).length = l.length
  | [], _ => rfl
  | x :: xs, n => by simp only [dEnum, List.length_cons, dEnum_len xs]
theorem dEnum_get : ∀ (l : List D) (n i : Nat) (d : D), (dEnum n l)[i]? = some d → ∃ x, l[i]? = some x ∧ d = .tup [.int ((n + i : Nat)), x]
  | [], _, _, _, h => by simp [dEnum] at h
  | x :: xs, n, 0, d, h => by simp [dEnum] at h; exact ⟨x, rfl, h.symm⟩
  | x :: xs, n, i + 1, d, h => by
    obtain ⟨y, h1, h2⟩ := dEnum_get xs (n + 1) i d (by simpa [dEnum] using h)
    exact ⟨y, by simpa using h1, by rw [h2, show n + 1 + i = n + (i + 1) by omega]⟩
theorem itd_zip {J : It} {n : Nat} {G : Hp → Prop} (w : Walk J n G (YPair (fun i => xs[i]?) (fun i => ys[i]?))) (hG : ∀ H, Same Z H → G H) (hn : n = min xs.length ys.length) (r : RpL K tp Z xs ds) (q : RpL K tp Z ys es) : ItD K tp Z J (dZip ds es) := by
  have e : (dZip ds es).length = n := by rw [dZip_len, hn, r.1, q.1]
  refine ⟨_, by rw [e]; exact w.mono hG fun _ _ _ _ _ _ y => y, fun i H v H' d h1 s y => .inr ?_⟩
  obtain ⟨T, x, y, rfl, hT, rfl, hx, hy⟩ := y
  obtain ⟨d1, d2, e1, e2, rfl⟩ := dZip_get ds es i d h1
  exact ⟨T, [x, y], [d1, d2], hT, rfl, rfl, rfl, .cons (r.2 i x d1 hx e1) (.cons (q.2 i y d2 hy e2) .nil)⟩
theorem itd_enum {J : It} {G : Hp → Prop} (w : Walk J xs.length G (YPair (fun i => some (.int (i : Nat))) (fun i => xs[i]?))) (hG : ∀ H, Same Z H → G H) (r : RpL K tp Z xs ds) : ItD K tp Z J (dEnum 0 ds) := by
  have e : (dEnum 0 ds).length = xs.length := by rw [dEnum_len, r.1]
  refine ⟨_, by rw [e]; exact w.mono hG fun _ _ _ _ _ _ y => y, fun i H v H' d h1 s y => .inr ?_⟩
  obtain ⟨T, x, y, rfl, hT, rfl, hx, hy⟩ := y
  obtain ⟨d1, e1, rfl⟩ := dEnum_get ds 0 i d h1
  cases hx
  exact ⟨T, [.int (i : Nat), y], _, hT, rfl, rfl, rfl, .cons (by rw [Nat.zero_add]; exact .int _) (.cons (r.2 i y d1 hy e1) .nil)⟩
def strDs (x : Str) : List D := x.cps.toList.map fun c => D.str ⟨#[c]⟩
theorem itd_str (x : Str) : ItD K tp Z (Its x) (strDs x) := by
  have e : (strDs x).length = x.cps.size := by unfold strDs; simp
  refine ⟨_, by rw [e]; exact walk_str.mono (fun _ _ => trivial) fun _ _ _ _ _ _ y => y, fun i H v H' d h1 s y => .inl ?_⟩
  obtain ⟨rfl, c, hc, rfl⟩ := y
  refine ⟨rfl, ?_⟩
  unfold strDs at h1
  rw [List.getElem?_map, Array.getElem?_toList, hc] at h1
  cases h1
  exact .str _
end
/-- a tuple, a list, a text -/
def iAny (K : PySem.W.Frag) (tl : TE) : TI := fun σ H R => tl σ H fun x H1 => (∃ a xs, x = .ref a ∧ SqL K H1 a xs ∧ R (Itl K a) H1) ∨ (∃ a xs, x = .ref a ∧ SqT K H1 a xs ∧ R (Itt K a) H1) ∨ ∃ z, x = .str z ∧ R (Its z) H1
section
variable {X : Cx} {tp : TP} {B : Hp} {fl fl' fl1 : List Nat} {e e2 a b c tg : Expr} {es rest : List Expr} {k ka kb kc : Kd} {m ma mb mc : EM} {ba bb : BM} {mr : AM} {pos : Pos} {lv : Nat} {lp fl2 : List Nat} {st : Stmt} {sts sts2 : List Stmt} {sm sm1 sm2 : SM}
theorem pi_any {l : Expr} {tl : TE} (hl : PE X l tl) : PI X tg l (iAny X.K tl) := by
  constructor
  intro pins s σ H R I h
  refine thn (hl.run pins s σ H _ I h) fun v s1 ⟨x, H1, I1, r1, q1⟩ => ?_
  have fp : ∀ b ∈ [s1.heap.objs.size], FpOk X pins H1 b := fun b hb => by
    rw [List.mem_singleton.mp hb]
    exact I1.fpOk (Nat.le_refl _) (I1.hok.fresh (Nat.le_refl _))
  rcases q1 with ⟨a, xs, rfl, hq, q⟩ | ⟨a, xs, rfl, hq, q⟩ | ⟨z, rfl, q⟩
  · cases r1
    obtain ⟨its, rv, p, hz⟩ := I1.list hq
    refine wpAny_pyIter_list p.isList ⟨s1.heap.objs.size, [s1.heap.objs.size], _, _, H1, rfl, ?_, turn_list a _, ⟨_, Heap.get?_push_size _ rfl, rfl, rfl⟩, fp, q⟩
    exact I1.kept (t' := s1.toks) fun b o e => Heap.get?_push_of_some _ e
  · cases r1
    obtain ⟨its, rv, p, hz⟩ := I1.tuple hq
    refine wpAny_pyIter_tuple p ⟨s1.heap.objs.size, [s1.heap.objs.size], _, _, H1, rfl, ?_, turn_tuple a _, ⟨_, Heap.get?_push_size _ rfl, rfl, rfl⟩, fp, q⟩
    exact I1.kept (t' := s1.toks) fun b o e => Heap.get?_push_of_some _ e
  · obtain ⟨t, rfl⟩ := r1
    cases ha : z.cps.all (· < 128)
    · refine wpAny_pyIter_wide ha ⟨s1.heap.objs.size, [s1.heap.objs.size], _, _, H1, rfl, ?_, turn_str _ z t "str_iterator" (.inr rfl), ⟨_, Heap.get?_push_size _ rfl, rfl, rfl⟩, fp, q⟩
      exact I1.kept (t' := s1.toks) fun b o e => Heap.get?_push_of_some _ e
    · refine wpAny_pyIter_ascii ha ⟨s1.heap.objs.size, [s1.heap.objs.size], _, _, H1, rfl, ?_, turn_str _ z t "str_ascii_iterator" (.inl rfl), ⟨_, Heap.get?_push_size _ rfl, rfl, rfl⟩, fp, q⟩
      exact I1.kept (t' := s1.toks) fun b o e => Heap.get?_push_of_some _ e
def dItems : D → Option (List D)
  | .tup l => some l
  | .lst l => some l
  | .str x => some (strDs x)
  | _ => none
def mIt (m : EM) : IM := fun ρ t => (m ρ t).bind fun p => (dItems p.1).map fun l => (l, p.2)
theorem mIt_some {ρ : Env} {t t' : Tape} {ds : List D} (h : mIt m ρ t = some (ds, t')) : ∃ d, m ρ t = some (d, t') ∧ dItems d = some ds := by
  obtain ⟨⟨d, t1⟩, h1, h2⟩ := bind_some h
  simp only at h2
  cases e : dItems d with
  | none => rw [e] at h2; cases h2
  | some z => rw [e] at h2; cases h2; exact ⟨d, h1, e⟩
theorem fi_any (h : FE X tp B fl e (.o 0) m) : FI X tp B fl tg e (mIt m) := PI.imp (pi_any h) fun σ H R' ⟨Fs, ρ, t, ds, t', R, hm, q⟩ => by
  obtain ⟨d, h1, h2⟩ := mIt_some hm
  refine ⟨Fs, ρ, t, d, t', R, h1, fun v H1 r => ?_⟩
  have i := r.frz R.ok
  cases d with
  | tup l =>
    cases h2
    obtain ⟨a, xs, rfl, hs, hr⟩ := i.tupL
    exact .inr (.inl ⟨a, xs, rfl, Same.seqT hid_sub hs, q _ _ r.same r.tape (itd_tup hs hr)⟩)
  | lst l =>
    cases h2
    obtain ⟨a, xs, rfl, hs, hr⟩ := i.lstL
    exact .inl ⟨a, xs, rfl, .inl (.inl (hid_sub _ _ hs)), q _ _ r.same r.tape (itd_lst hs hr)⟩
  | str x =>
    cases h2
    exact .inr (.inr ⟨x, i.str_inv, q _ _ r.same r.tape (itd_str x)⟩)
  | _ => cases h2
theorem rgcD {i j : Int} (h1 : -(2 ^ 62) ≤ i ∧ i < 2 ^ 62) (h2 : -(2 ^ 62) ≤ j ∧ j < 2 ^ 62) : RgC i j (-1) (i - j).toNat := RgC.neg h1.1 h1.2 h2.1 h2.2
/-! range -/
/-- (by Classical) -/
def big (i : Int) : Bool := @decide (-(2 ^ 62) ≤ i ∧ i < 2 ^ 62) (Classical.propDecidable _)
theorem of_big {i : Int} (h : big i = true) : -(2 ^ 62) ≤ i ∧ i < 2 ^ 62 := @of_decide_eq_true _ (Classical.propDecidable _) h
def dRange1 : List D → Option (List D)
  | [.int j] => if big j then some ((List.range j.toNat).map fun (i : Nat) => D.int (0 + i)) else none
  | _ => none
def dRange2 : List D → Option (List D)
  | [.int i, .int j] => if big i && big j then some ((List.range (j - i).toNat).map fun (k : Nat) => D.int (i + k)) else none
  | _ => none
/-- range(i, j, -1) -/
def dRangeD : List D → Option (List D)
  | [.int i, .int j, .int c] => if big i && big j && (c == -1) then some ((List.range (i - j).toNat).map fun (k : Nat) => D.int (i + (k : Int) * (-1))) else none
  | _ => none
def mIter (f : List D → Option (List D)) (mr : AM) : IM := fun ρ t => (mr ρ t).bind fun p => (f p.1).map fun l => (l, p.2)
theorem mIter_some {f : List D → Option (List D)} {ρ : Env} {t t' : Tape} {ds : List D} (h : mIter f mr ρ t = some (ds, t')) : ∃ as, mr ρ t = some (as, t') ∧ f as = some ds := by
  obtain ⟨⟨d, t1⟩, h1, h2⟩ := bind_some h
  simp only at h2
  cases e : f d with
  | none => rw [e] at h2; cases h2
  | some z => rw [e] at h2; cases h2; exact ⟨d, h1, e⟩
theorem fi_range1 {p : Pos} (hg : Gl X "range") (hm : X.mg "range" = none) (ha : FA X tp B fl [a] .b mr) (hs : starEach [a] X.env = [(false, eval a X.env)] := by rfl) : FI X tp B fl tg (.Call (.Name "range" p) [a] [] pos) (mIter dRange1 mr) :=
  PI.imp (pi_range1 hg hm ha hs) fun σ H R' ⟨Fs, ρ, t, ds, t', R, hm', q⟩ => by
    obtain ⟨as, h1, h2⟩ := mIter_some hm'
    refine ⟨Fs, ρ, t, as, t', R, h1, fun vs H1 r => ?_⟩
    unfold dRange1 at h2
    split at h2
    · rename_i j
      split at h2
      · rename_i c
        cases h2
        obtain ⟨v, rfl, i⟩ := one_of r.len r.val
        have c' := of_big c
        exact ⟨j, by rw [i.all.int_inv], c'.1, c'.2, q _ _ r.same r.tape (itd_range 0 j.toNat)⟩
      · cases h2
    · cases h2
theorem fi_range2 {p : Pos} (hg : Gl X "range") (hm : X.mg "range" = none) (ha : FA X tp B fl [a, b] .b mr) (hs : starEach [a, b] X.env = [(false, eval a X.env), (false, eval b X.env)] := by rfl) (hs2 : starEach [b] X.env = [(false, eval b X.env)] := by rfl) : FI X tp B fl tg (.Call (.Name "range" p) [a, b] [] pos) (mIter dRange2 mr) :=
  PI.imp (pi_range2 hg hm ha hs hs2) fun σ H R' ⟨Fs, ρ, t, ds, t', R, hm', q⟩ => by
    obtain ⟨as, h1, h2⟩ := mIter_some hm'
    refine ⟨Fs, ρ, t, as, t', R, h1, fun vs H1 r => ?_⟩
    unfold dRange2 at h2
    split at h2
    · rename_i i j
      split at h2
      · rename_i c
        cases h2
        obtain ⟨v, w, rfl, i1, i2⟩ := two_of r.len r.val
        rw [Bool.and_eq_true] at c
        have c1 := of_big c.1
        have c2 := of_big c.2
        exact ⟨i, j, by rw [i1.all.int_inv, i2.all.int_inv], ⟨c1.1, c1.2, c2.1, c2.2⟩, q _ _ r.same r.tape (itd_range i (j - i).toNat)⟩
      · cases h2
    · cases h2
theorem three_of {vs : List V} {d e f : D} {K : PySem.W.Frag} {O : List Addr} {H : Hp} {ka : Kd} (l : vs.length = [d, e, f].length) (r : ∀ (i : Nat) (v : V) (g : D), vs[i]? = some v → [d, e, f][i]? = some g → In K tp O H ka v g) : ∃ v w u, vs = [v, w, u] ∧ In K tp O H ka v d ∧ In K tp O H ka w e ∧ In K tp O H ka u f := by
  match vs, l with
  | [v, w, u], _ => exact ⟨v, w, u, rfl, r 0 v d rfl rfl, r 1 w e rfl rfl, r 2 u f rfl rfl⟩
theorem fi_rangeD {p : Pos} (hg : Gl X "range") (hm : X.mg "range" = none) (ha : FA X tp B fl [a, b, c] .b mr) (hs : starEach [a, b, c] X.env = (false, eval a X.env) :: starEach [b, c] X.env := by rfl) (hpl : (backTo pos (starEach [b, c] X.env)).any (·.1) = false := by rfl) : FI X tp B fl tg (.Call (.Name "range" p) [a, b, c] [] pos) (mIter dRangeD mr) :=
  PI.imp (pi_range3 hg hm ha hs hpl) fun σ H R' ⟨Fs, ρ, t, ds, t', R, hm', q⟩ => by
    obtain ⟨as, h1, h2⟩ := mIter_some hm'
    refine ⟨Fs, ρ, t, as, t', R, h1, fun vs H1 r => ?_⟩
    unfold dRangeD at h2
    split at h2
    · rename_i i j c
      split at h2
      · rename_i cc
        cases h2
        obtain ⟨v, w, u, rfl, i1, i2, i3⟩ := three_of r.len r.val
        rw [Bool.and_eq_true, Bool.and_eq_true] at cc
        have c1 := of_big cc.1.1
        have c2 := of_big cc.1.2
        have c3 : c = -1 := by simpa using cc.2
        subst c3
        exact ⟨i, j, -1, (i - j).toNat, by rw [i1.all.int_inv, i2.all.int_inv, i3.all.int_inv], rgcD c1 c2, q _ _ r.same r.tape (itd_rangeC i (-1) (i - j).toNat)⟩
      · cases h2
    · cases h2
/-! zip, enumerate -/
def dItems2 : D → Option (Bool × List D)
  | .tup l => some (true, l)
  | .lst l => some (false, l)
  | _ => none
def dZipA : List D → Option (List D)
  | [.tup l, .tup m] => some (dZip l m)
  | [.lst l, .lst m] => some (dZip l m)
  | _ => none
theorem walk_zipT {K : PySem.W.Frag} {a b : Addr} {xs ys : List V} : Walk (RZ.ItzT K a b) (min xs.length ys.length) (fun H => SqT K H a xs ∧ SqT K H b ys) (YPair (fun i => xs[i]?) (fun i => ys[i]?)) := by
  refine ⟨fun i H hi q => ?_, fun H q => ⟨xs, ys, q.1, q.2, by omega⟩, fun i H v H' _ q y => ?_⟩
  · exact ⟨xs, ys, xs[i]'(by omega), ys[i]'(by omega), q.1, q.2, List.getElem?_eq_getElem _, List.getElem?_eq_getElem _⟩
  · obtain ⟨T, x, z, e1, e2, e3, e4, e5⟩ := y
    exact ⟨T, x, z, e1, e2, e3, e4 xs q.1, e5 ys q.2⟩
theorem fi_zip {elts : List Expr} {kk : Nat} {tpos p : Pos} (hg : Gl X "zip") (hm : X.mg "zip" = none) (ha : FA X tp B fl [e, e2] (.o 0) mr)
    (hs : starEach [e, e2] X.env = (false, eval e X.env) :: starEach [e2] X.env := by rfl) (hpl : (backTo pos (starEach [e2] X.env)).any (·.1) = false := by rfl) : FI X tp B fl (.Tuple elts kk tpos) (.Call (.Name "zip" p) [e, e2] [] pos) (mIter dZipA mr) :=
  PI.imp (RZ.pi_zipA hg hm ha hs hpl) fun σ H R' ⟨Fs, ρ, t, ds, t', R, hm', q⟩ => by
    obtain ⟨as, h1, h2⟩ := mIter_some hm'
    refine ⟨Fs, ρ, t, as, t', R, h1, fun vs H1 r => ?_⟩
    unfold dZipA at h2
    split at h2
    · rename_i l m'
      cases h2
      obtain ⟨v, w, rfl, i1, i2⟩ := two_of r.len r.val
      obtain ⟨a1, xs, rfl, hs1, hr1⟩ := Rp.tupL (show Rp X.K tp (hid (ours tp Fs) H1) v (.tup l) from i1)
      obtain ⟨a2, ys, rfl, hs2, hr2⟩ := Rp.tupL (show Rp X.K tp (hid (ours tp Fs) H1) w (.tup m') from i2)
      exact ⟨a1, a2, xs, ys, rfl, .inr ⟨Same.seqT hid_sub hs1, Same.seqT hid_sub hs2, q _ _ r.same r.tape (itd_zip walk_zipT (fun H s => ⟨Same.seqT s hs1, Same.seqT s hs2⟩) rfl hr1 hr2)⟩⟩
    · rename_i l m'
      cases h2
      obtain ⟨v, w, rfl, i1, i2⟩ := two_of r.len r.val
      obtain ⟨a1, xs, rfl, hs1, hr1⟩ := Rp.lstL (show Rp X.K tp (hid (ours tp Fs) H1) v (.lst l) from i1)
      obtain ⟨a2, ys, rfl, hs2, hr2⟩ := Rp.lstL (show Rp X.K tp (hid (ours tp Fs) H1) w (.lst m') from i2)
      exact ⟨a1, a2, xs, ys, rfl, .inl ⟨.inl (.inl (hid_sub _ _ hs1)), .inl (.inl (hid_sub _ _ hs2)), q _ _ r.same r.tape (itd_zip (walk_zip rfl) (fun H s => ⟨.inl (.inl (s _ _ hs1)), .inl (.inl (s _ _ hs2))⟩) rfl hr1 hr2)⟩⟩
    · cases h2
def iEnumT (K : PySem.W.Frag) (ta : TA) : TI := fun σ H R => ta σ H fun vs H1 => ∃ a xs, vs = [.ref a] ∧ SqT K H1 a xs ∧ R (IteT K a) H1
theorem PI.or {tg e : Expr} {t u : TI} (h : PI X tg e t) (h' : PI X tg e u) : PI X tg e (fun σ H R => t σ H R ∨ u σ H R) :=
  ⟨fun pins s σ H R I q => q.elim (fun z => h.run pins s σ H R I z) fun z => h'.run pins s σ H R I z⟩
theorem enum_fp {pins : List (Addr × Obj)} {σ : L2.St} {H H1 : Hp} {s : Shared} (I : Inv X pins σ H s) (n : Nat) (hn : s.heap.objs.size = n) : ∀ b ∈ [n + 1, n], FpOk X pins H b := fun b hb => by
  have hle : s.heap.objs.size ≤ b := by
    rcases List.mem_cons.mp hb with z | z
    · rw [hn, z]; exact Nat.le_succ n
    · rw [hn, List.mem_singleton.mp z]; exact Nat.le_refl n
  exact I.fpOk hle (I.hok.fresh hle)
theorem pi_enumT {ta : TA} {p tpos : Pos} {elts : List Expr} {kk : Nat} (hg : Gl X "enumerate") (hm : X.mg "enumerate" = none) (ha : PA X [e] ta) (hs : starEach [e] X.env = [(false, eval e X.env)] := by rfl) : PI X (.Tuple elts kk tpos) (.Call (.Name "enumerate" p) [e] [] pos) (iEnumT X.K ta) := by
  constructor
  intro pins s σ H R I h
  refine Call_ (ld_blt I hg hm boot_enumerate (PyProof.Rows.callWith_type1 (thn (ha.run pos pins s σ H _ I h) fun us s1 ⟨vs, H1, I1, r1, q1⟩ => ?_) hs rfl))
  obtain ⟨a, xs, rfl, hq, q⟩ := q1
  cases r1 with
  | cons r rr =>
    cases rr; cases r
    obtain ⟨its, rv, p', hz⟩ := I1.tuple hq
    have hal : a < s1.heap.objs.size := by obtain ⟨o, ho, _⟩ := p'; exact Heap.lt_size ho
    refine call_enumT (items := its.toArray) p' ?_
    intro h' he hit hsz hk
    refine wpAny_pyIter_enum he ?_
    have I2 : Inv X pins σ H1 { s1 with heap := h' } := I1.kept (t' := s1.toks) hk
    have two := enum_fp (H1 := H1) I1 s1.heap.objs.size rfl
    generalize s1.heap.objs.size = N at he hit two hal
    exact ⟨N + 1, [N + 1, N], _, _, H1, rfl, I2, turn_enumT a (N + 1) N, ⟨⟨.none, he⟩, hit, Nat.succ_ne_self _, Nat.ne_of_lt hal, Nat.ne_of_gt (Nat.lt_succ_of_lt hal)⟩, two, q⟩
theorem walk_enumT {K : PySem.W.Frag} {a : Addr} {xs : List V} : Walk (IteT K a) xs.length (fun H => SqT K H a xs) (YPair (fun i => some (.int (i : Nat))) (fun i => xs[i]?)) := by
  refine ⟨fun i H hi q => ⟨xs, xs[i], q, List.getElem?_eq_getElem hi⟩, fun H q => ⟨xs, q, Nat.le_refl _⟩, fun i H v H' _ q y => ?_⟩
  obtain ⟨T, x, e1, e2, e3, e4⟩ := y
  exact ⟨T, .int (i : Nat), x, e1, e2, e3, rfl, e4 xs q⟩
def dEnumA : List D → Option (List D)
  | [.tup l] => some (dEnum 0 l)
  | [.lst l] => some (dEnum 0 l)
  | _ => none
theorem fi_enum {elts : List Expr} {kk : Nat} {tpos p : Pos} (hg : Gl X "enumerate") (hm : X.mg "enumerate" = none) (ha : FA X tp B fl [e] (.o 0) mr) (hs : starEach [e] X.env = [(false, eval e X.env)] := by rfl) : FI X tp B fl (.Tuple elts kk tpos) (.Call (.Name "enumerate" p) [e] [] pos) (mIter dEnumA mr) :=
  PI.imp (PI.or (pi_enum hg hm ha hs) (pi_enumT hg hm ha hs)) fun σ H R' ⟨Fs, ρ, t, ds, t', R, hm', q⟩ => by
    obtain ⟨as, h1, h2⟩ := mIter_some hm'
    unfold dEnumA at h2
    split at h2
    · rename_i l
      cases h2
      refine .inr ⟨Fs, ρ, t, _, t', R, h1, fun vs H1 r => ?_⟩
      obtain ⟨v, rfl, i1⟩ := one_of r.len r.val
      obtain ⟨a1, xs, rfl, hs1, hr1⟩ := Rp.tupL (show Rp X.K tp (hid (ours tp Fs) H1) v (.tup l) from i1)
      exact ⟨a1, xs, rfl, Same.seqT hid_sub hs1, q _ _ r.same r.tape (itd_enum walk_enumT (fun H s => Same.seqT s hs1) hr1)⟩
    · rename_i l
      cases h2
      refine .inl ⟨Fs, ρ, t, _, t', R, h1, fun vs H1 r => ?_⟩
      obtain ⟨v, rfl, i1⟩ := one_of r.len r.val
      obtain ⟨a1, xs, rfl, hs1, hr1⟩ := Rp.lstL (show Rp X.K tp (hid (ours tp Fs) H1) v (.lst l) from i1)
      exact ⟨a1, xs, rfl, .inl (.inl (hid_sub _ _ hs1)), q _ _ r.same r.tape (itd_enum walk_enum (fun H s => .inl (.inl (s _ _ hs1))) hr1)⟩
    · cases h2
end
end FL
set_option maxRecDepth 100000
set_option maxHeartbeats 2000000
noncomputable section
namespace FL
open PySem PySem.Spec PyProof.Rows L2

/-- another base below -/
theorem RelF.rebase {K : PySem.W.Frag} {tp : TP} {B Z H : Hp} {fl : List Nat} {Fs : Ow} {σ : L2.St} {ρ : Env} {t : Tape} (r : RelF K tp Z fl Fs H σ ρ t) (s : Same B Z) : RelF K tp B fl Fs H σ ρ t :=
  ⟨r.l1, r.l2, r.l3, r.nd, r.tape, fun b u q => r.base b u (s b u q), r.lists, r.z, r.slot⟩
theorem RelF.upbase {K : PySem.W.Frag} {tp : TP} {B H : Hp} {fl : List Nat} {Fs : Ow} {σ : L2.St} {ρ : Env} {t : Tape} (r : RelF K tp B fl Fs H σ ρ t) : RelF K tp (hid (ours tp Fs) H) fl Fs H σ ρ t :=
  ⟨r.l1, r.l2, r.l3, r.nd, r.tape, Same.refl _, r.lists, r.z, r.slot⟩
theorem RetB.rebase {K : PySem.W.Frag} {tp : TP} {B Z H : Hp} {lv : Nat} {d : D} {t : Tape} {v : V} (r : RetB K tp Z lv d t v H) (s : Same B Z) : RetB K tp B lv d t v H := by
  refine ⟨r.tape, fun b u q => r.base b u (s b u q), ?_⟩
  obtain ⟨F, nd, hF, ow⟩ := r.val
  refine ⟨F, nd, fun a ha => ⟨?_, (hF a ha).2⟩, ow⟩
  cases e : B a with
  | none => rfl
  | some o => have q := s a o e; rw [(hF a ha).1] at q; cases q
/-- what stands in the base stands now -/
theorem RelF.now {K : PySem.W.Frag} {tp : TP} {B H : Hp} {fl : List Nat} {Fs : Ow} {σ : L2.St} {ρ : Env} {t : Tape} (r : RelF K tp B fl Fs H σ ρ t) : Same B H := fun b u q => (hid_some (r.base b u q)).2
/-- the item of a turn, with the state behind it -/
theorem item_of {K : PySem.W.Frag} {tp : TP} {B Z H H' : Hp} {fl : List Nat} {Fs : Ow} {σ : L2.St} {ρ : Env} {t : Tape} {v : V} {d : D} (r : RelF K tp B fl Fs H σ ρ t) (sz : Same Z (hid (ours tp Fs) H))
    (h : (H' = H ∧ Rp K tp Z v d) ∨ ∃ (p : Addr) (xs : List V) (es : List D), H p = none ∧ v = .ref p ∧ H' = upd H p (.tup xs) ∧ d = .tup es ∧ RpL K tp Z xs es) :
    SameX tp H H' ∧ TapeAt tp H' t ∧ Rp K tp (hid (ours tp Fs) H') v d := by
  rcases h with ⟨rfl, h⟩ | ⟨p, xs, es, hp, rfl, rfl, rfl, hr⟩
  · exact ⟨.refl, r.tape, h.mono sz⟩
  · exact ⟨.new hp, r.tape.new hp, .tupM (.inl (.inl (hid_of (r.ok.new hp) upd_same))) ((hr.mono sz).mono (hid_new r.ok hp))⟩

/-! ### for -/
def forL (g : GM) (sm : SM) : List D → Env → Tape → Option Out
  | [], ρ, t => some (.nx ρ t)
  | d :: ds, ρ, t => (g d ρ).bind fun ρ1 => (sm ρ1 t).bind fun o => match o with
    | .nx ρ' t' => forL g sm ds ρ' t'
    | .ct ρ' t' => forL g sm ds ρ' t'
    | .bk ρ' t' => some (.nx ρ' t')
    | .rt d t' => some (.rt d t')
def mFor (mi : IM) (g : GM) (sm : SM) : SM := fun ρ t => (mi ρ t).bind fun p => forL g sm p.1 ρ p.2
section
variable {X : Cx} {tp : TP} {B : Hp} {fl fl' fl1 ws vs : List Nat} {e e2 a b c tg iter elt : Expr} {es rest ifs : List Expr} {k ka kb kc : Kd} {m ma mb mc me : EM} {ba bb : BM} {mr : AM} {mi : IM} {g : GM} {pos : Pos} {lv n : Nat} {lp fl2 : List Nat} {st : Stmt} {sts sts2 : List Stmt} {sm sm1 sm2 : SM}
theorem PSs.ex {α : Type} {t : α → TS} (h : ∀ z, PSs X sts (t z)) : PSs X sts (fun Z σ H => ∃ z, t z Z σ H) := ⟨fun pins s σ H Z I ⟨z, q⟩ => (h z).run pins s σ H Z I q⟩
theorem PG.ex {α : Type} {t : α → TG} (h : ∀ z, PG X tg (t z)) : PG X tg (fun v σ H Q => ∃ z, t z v σ H Q) := ⟨fun pins s σ H v u Q I r ⟨z, q⟩ => (h z).run pins s σ H v u Q I r q⟩
theorem fs_for (hp : PassesOwn (model X.prog X.w) X.A X.env X.xe) (hc : X.calm = true) (hi : FI X tp B fl tg iter mi) (hg : ∀ Z, FG X tp Z fl fl1 ws tg g) (hb : ∀ Z, FSs X tp Z lv fl fl1 fl sts sm)
    (hs : ∀ x, foldedSetIterable iter X.env x = pure x := by intro _; rfl) : FS X tp B lv lp fl fl (.For tg iter sts [] pos) (mFor mi g sm) :=
  PS.imp (ps_for hp hc hi (PG.ex hg) (PSs.ex hb) hs) fun D σ H ⟨Fs, ρ, t, o, R, hm, q⟩ => by
    obtain ⟨⟨ds, t1⟩, h1, h2⟩ := bind_some hm
    simp only at h2
    refine ⟨Fs, ρ, t, ds, t1, R, h1, ?_⟩
    intro J H1 s1 ta1 it
    obtain ⟨Y, wk, sp⟩ := it
    have R1 := R.step s1 ta1
    generalize hZ : hid (ours tp Fs) H1 = Z at wk sp
    have sBZ : Same B Z := by rw [← hZ]; exact R1.base
    have RZ1 : RelF X.K tp Z fl Fs H1 σ ρ t1 := by rw [← hZ]; exact R1.upbase
    -- what the statement's end asks, from a state over Z
    have fin : match o with
        | .nx ρ' t' => ∀ σ' H' Fs', RelF X.K tp Z fl Fs' H' σ' ρ' t' → D.nx σ' H'
        | .rt d t' => ∀ v H', RetB X.K tp Z lv d t' v H' → D.rt v H'
        | .bk ρ' t' => True
        | .ct ρ' t' => True := by
      cases o with
      | nx ρ' t' => exact fun σ' H' Fs' r => q σ' H' Fs' (r.rebase sBZ)
      | rt d t' => exact fun v H' r => q v H' (r.rebase sBZ)
      | bk ρ' t' => trivial
      | ct ρ' t' => trivial
    refine ⟨fun i m σ H => m = ds.length - i ∧ i ≤ ds.length ∧ ∃ Fs ρ t, RelF X.K tp Z fl Fs H σ ρ t ∧ forL g sm (ds.drop i) ρ t = some o, ⟨ds.length, rfl, Nat.zero_le _, Fs, ρ, t1, RZ1, h2⟩, ?_⟩
    rintro i m σ2 H2 ⟨rfl, hi2, Gs, ρ2, t2, R2, h3⟩
    have hG := R2.now
    by_cases hlt : i < ds.length
    · refine .inr ⟨wk.goes i H2 hlt hG, fun σ' H' => ∃ Fs ρ t, RelF X.K tp Z fl Fs H' σ' ρ t ∧ forL g sm (ds.drop (i + 1)) ρ t = some o, fun σ' H' ⟨Fs', ρ', t', r', e'⟩ => ⟨ds.length - (i + 1), by omega, rfl, hlt, Fs', ρ', t', r', e'⟩, fun x H' y => ?_⟩
      have hd : ds[i]? = some ds[i] := List.getElem?_eq_getElem hlt
      obtain ⟨sx, tx, rx⟩ := item_of R2 R2.base (sp i H2 x H' ds[i] hd hG (wk.yields i H2 x H' hlt hG y))
      rw [List.drop_eq_getElem_cons hlt] at h3
      obtain ⟨ρ3, e1, e2⟩ := bind_some h3
      obtain ⟨o3, e3, e4⟩ := bind_some e2
      refine ⟨Z, Gs, ρ2, t2, ds[i], ρ3, R2.step sx tx, rx, e1, fun σ4 Gs4 _ R4 => ⟨Z, Gs4, ρ3, t2, o3, R4, e3, ?_⟩⟩
      cases o3 with
      | nx ρ5 t5 => exact fun σ5 H5 Gs5 R5 => ⟨Gs5, ρ5, t5, R5, e4⟩
      | ct ρ5 t5 => exact fun σ5 H5 Gs5 R5 => ⟨Gs5, ρ5, t5, R5, e4⟩
      | bk ρ5 t5 => cases e4; exact fun σ5 H5 Gs5 R5 => fin σ5 H5 Gs5 R5
      | rt d5 t5 => cases e4; exact fun v5 H5 R5 => fin v5 H5 R5
    · have e : i = ds.length := by omega
      subst e
      rw [List.drop_length] at h3
      cases h3
      exact .inl ⟨wk.stops H2 hG, fin σ2 H2 Gs R2⟩

/-! ### while, by a number of turns -/
def whileN (c : BM) (sm : SM) : Nat → Env → Tape → Option Out
  | 0, _, _ => none
  | n + 1, ρ, t => (c ρ t).bind fun p => if p.1 = true then (sm ρ p.2).bind fun o => match o with
      | .nx ρ' t' => whileN c sm n ρ' t'
      | .ct ρ' t' => whileN c sm n ρ' t'
      | .bk ρ' t' => some (.nx ρ' t')
      | .rt d t' => some (.rt d t')
    else some (.nx ρ p.2)
def mWhile (fu : Env → Tape → Nat) (c : BM) (sm : SM) : SM := fun ρ t => whileN c sm (fu ρ t) ρ t
theorem fs_while (fu : Env → Tape → Nat) (hp : PassesOwn (model X.prog X.w) X.A X.env X.xe) (hc : FT X tp B fl c ba) (hb : FSs X tp B lv fl fl fl sts sm) : FS X tp B lv lp fl fl (.While c sts [] pos) (mWhile fu ba sm) :=
  PS.imp (ps_while hp hc hb) fun D σ H ⟨Fs, ρ, t, o, R, hm, q⟩ => by
    have fin : match o with
        | .nx ρ' t' => ∀ σ' H' Fs', RelF X.K tp B fl Fs' H' σ' ρ' t' → D.nx σ' H'
        | .rt d t' => ∀ v H', RetB X.K tp B lv d t' v H' → D.rt v H'
        | .bk ρ' t' => True
        | .ct ρ' t' => True := by
      cases o with
      | nx ρ' t' => exact q
      | rt d t' => exact q
      | bk ρ' t' => trivial
      | ct ρ' t' => trivial
    refine ⟨fun n σ H => ∃ Fs ρ t, RelF X.K tp B fl Fs H σ ρ t ∧ whileN ba sm n ρ t = some o, ⟨fu ρ t, Fs, ρ, t, R, hm⟩, ?_⟩
    rintro n σ2 H2 ⟨Gs, ρ2, t2, R2, h3⟩
    cases n with
    | zero => cases h3
    | succ n =>
      obtain ⟨⟨z, t3⟩, h1, h2⟩ := bind_some h3
      simp only at h2
      refine ⟨Gs, ρ2, t2, z, t3, R2, h1, fun H3 s3 ta3 => ?_⟩
      cases z with
      | true =>
        simp only [if_true] at h2 ⊢
        obtain ⟨o3, e3, e4⟩ := bind_some h2
        refine ⟨fun σ H => ∃ Fs ρ t, RelF X.K tp B fl Fs H σ ρ t ∧ whileN ba sm n ρ t = some o, fun σ' H' w => ⟨n, Nat.lt_succ_self n, w⟩, Gs, ρ2, t3, o3, R2.step s3 ta3, e3, ?_⟩
        cases o3 with
        | nx ρ5 t5 => exact fun σ5 H5 Gs5 R5 => ⟨Gs5, ρ5, t5, R5, e4⟩
        | ct ρ5 t5 => exact fun σ5 H5 Gs5 R5 => ⟨Gs5, ρ5, t5, R5, e4⟩
        | bk ρ5 t5 => cases e4; exact fun σ5 H5 Gs5 R5 => fin σ5 H5 Gs5 R5
        | rt d5 t5 => cases e4; exact fun v5 H5 R5 => fin v5 H5 R5
      | false =>
        simp only [Bool.false_eq_true, if_false] at h2 ⊢
        cases h2
        exact fin σ2 H3 Gs (R2.step s3 ta3)

/-! ### comprehensions -/
def FTs (X : Cx) (tp : TP) (B : Hp) (fl : List Nat) (ifs : List Expr) (m : BM) : Prop := PTs X ifs (tT X.K tp B fl m)
theorem PTs.imp {t u : TT} (h : PTs X ifs t) (i : ∀ σ H Q, u σ H Q → t σ H Q) : PTs X ifs u := ⟨fun pins s σ H Q I q => h.run pins s σ H Q I (i σ H Q q)⟩
def mYes : BM := fun _ t => some (true, t)
theorem fts_nil : FTs X tp B fl [] mYes := PTs.imp pts_nil fun σ H Q ⟨Fs, ρ, t, b, t', R, hm, q⟩ => by cases hm; exact q H .refl R.tape
theorem fts_one (h : FT X tp B fl c ba) : FTs X tp B fl [c] ba := pts_one h
def wipeE (ρ : Env) : List Nat → Env
  | [] => ρ
  | v :: vs => (wipeE ρ vs).set v none
def lcL (g : GM) (c : BM) (e : EM) (ρ : Env) : List D → Tape → Option (List D × Tape)
  | [], t => some ([], t)
  | d :: ds, t => (g d ρ).bind fun ρ1 => (c ρ1 t).bind fun p => if p.1 = true then (e ρ1 p.2).bind fun q => (lcL g c e ρ ds q.2).map fun r => (q.1 :: r.1, r.2) else lcL g c e ρ ds p.2
def mLc (mi : IM) (g : GM) (c : BM) (e : EM) (vs : List Nat) : EM := fun ρ t => (mi ρ t).bind fun p => (lcL g c e (wipeE ρ vs) p.1 p.2).bind fun q => if small q.1 then some (.lst q.1, q.2) else none
theorem wipeE_length (ρ : Env) : ∀ vs : List Nat, (wipeE ρ vs).length = ρ.length
  | [] => rfl
  | v :: vs => by simp only [wipeE, List.length_set, wipeE_length ρ vs]
theorem wipe_get (σ : L2.St) : ∀ (vs : List Nat) (i : Nat), i ∉ vs → (wipe σ vs)[i]? = σ[i]?
  | [], _, _ => rfl
  | v :: vs, i, h => by
    show ((wipe σ vs).set v none)[i]? = _
    rw [List.getElem?_set_ne (fun z => h (by rw [z]; exact List.mem_cons_self)), wipe_get σ vs i fun z => h (List.mem_cons_of_mem _ z)]
theorem wipeE_get (ρ : Env) : ∀ (vs : List Nat) (i : Nat) (d : D), (wipeE ρ vs)[i]? = some (some d) → i ∉ vs ∧ ρ[i]? = some (some d)
  | [], _, _, h => ⟨List.not_mem_nil, h⟩
  | v :: vs, i, d, h => by
    have h' : ((wipeE ρ vs).set v none)[i]? = some (some d) := h
    by_cases e : v = i
    · subst e
      by_cases hl : v < (wipeE ρ vs).length
      · rw [List.getElem?_set_self hl] at h'; cases h'
      · rw [List.getElem?_eq_none (by simpa using hl)] at h'; cases h'
    · rw [List.getElem?_set_ne e] at h'
      obtain ⟨h1, h2⟩ := wipeE_get ρ vs i d h'
      exact ⟨fun z => (List.mem_cons.mp z).elim (fun q => e q.symm) h1, h2⟩
theorem RelF.wipe {K : PySem.W.Frag} {Fs : Ow} {H : Hp} {σ : L2.St} {ρ : Env} {t : Tape} (r : RelF K tp B fl Fs H σ ρ t) (vs : List Nat) : RelF K tp B fl Fs H (L2.wipe σ vs) (wipeE ρ vs) t := by
  refine ⟨by rw [wipe_length]; exact r.l1, by rw [wipe_length, wipeE_length]; exact r.l2, by rw [wipe_length]; exact r.l3, r.nd, r.tape, r.base, r.lists, r.z, fun i n d F h1 h2 h3 => ?_⟩
  obtain ⟨hi, h2⟩ := wipeE_get ρ vs i d h2
  obtain ⟨v, e, o⟩ := r.slot i n d F h1 h2 h3
  exact ⟨v, by rw [wipe_get σ vs i hi]; exact e, o⟩
/-- what lies apart at the places of vs alone is one, wiped -/
theorem wipe_eq {σ σ' : L2.St} {vs : List Nat} (hl : σ'.length = σ.length) (h : ∀ j, j ∉ vs → σ'[j]? = σ[j]?) : L2.wipe σ' vs = L2.wipe σ vs := by
  refine List.ext_getElem? fun i => ?_
  by_cases hi : i ∈ vs
  · have z : ∀ (τ : L2.St) (us : List Nat), i ∈ us → (L2.wipe τ us)[i]? = if i < τ.length then some none else none := fun τ us => by
      induction us with
      | nil => intro h; cases h
      | cons u us ih =>
        intro h
        show ((L2.wipe τ us).set u none)[i]? = _
        by_cases e : u = i
        · subst e
          by_cases hl : u < τ.length
          · rw [List.getElem?_set_self (by rw [wipe_length]; exact hl), if_pos hl]
          · rw [List.getElem?_eq_none (by rw [List.length_set, wipe_length]; omega), if_neg hl]
        · rw [List.getElem?_set_ne e]
          exact ih ((List.mem_cons.mp h).elim (fun q => absurd q.symm e) fun q => q)
    rw [z σ' vs hi, z σ vs hi, hl]
  · rw [wipe_get σ' vs i hi, wipe_get σ vs i hi, h i hi]
theorem wipe_idem (σ : L2.St) (vs : List Nat) : L2.wipe (L2.wipe σ vs) vs = L2.wipe σ vs := wipe_eq (wipe_length σ vs) fun j hj => wipe_get σ vs j hj
end
end FL
set_option maxRecDepth 100000
set_option maxHeartbeats 2000000
noncomputable section
namespace FL
open PySem PySem.Spec PyProof.Rows L2

theorem ours_ext {tp : TP} (E : List Addr) (Fs : Ow) : ours tp ⟨E ++ Fs.e, Fs.s⟩ = E ++ ours tp Fs := by unfold ours; simp only [List.append_assoc]
theorem hid_upd {O : List Addr} {H : Hp} {a : Addr} {o : HO} (h : a ∈ O) : hid O (upd H a o) = hid O H := by
  funext b
  unfold hid
  split
  · rfl
  · rename_i q
    exact upd_ne fun z => q (by rw [z]; exact h)
theorem TapeAt.upd {tp : TP} {H : Hp} {t : Tape} {a : Addr} {o : HO} (ta : TapeAt tp H t) (n : a ∉ tpl tp) : TapeAt tp (L2.upd H a o) t := fun p c e => by
  obtain ⟨h1, h2, h3⟩ := ta p c e
  subst e
  have n1 : p ≠ a := fun z => n (by rw [← z]; exact List.mem_cons_self)
  have n2 : c ≠ a := fun z => n (by rw [← z]; exact List.mem_cons_of_mem _ List.mem_cons_self)
  exact ⟨h1, by rw [upd_ne n1]; exact h2, by rw [upd_ne n2]; exact h3⟩
/-- a list of ours that stands in no slot is changed -/
theorem RelF.updE {K : PySem.W.Frag} {tp : TP} {B H : Hp} {fl : List Nat} {Fs : Ow} {σ : L2.St} {ρ : Env} {t : Tape} (r : RelF K tp B fl Fs H σ ρ t) {a : Addr} (ha : a ∈ Fs.e) (ys : List V) : RelF K tp B fl Fs (upd H a (.lst ys)) σ ρ t := by
  have hao : a ∈ ours tp Fs := List.mem_append_left _ (List.mem_append_left _ ha)
  obtain ⟨n1, n2, n3⟩ := List.nodup_append.mp r.nd
  obtain ⟨m1, m2, m3⟩ := List.nodup_append.mp n1
  have nt : a ∉ tpl tp := fun z => n3 a (List.mem_append_left _ ha) a z rfl
  refine ⟨r.l1, r.l2, r.l3, r.nd, r.tape.upd nt, by rw [hid_upd hao]; exact r.base, fun b hb => ?_, r.z, fun i n d F h1 h2 h3 => ?_⟩
  · by_cases e : b = a
    · subst e; exact ⟨ys, upd_same⟩
    · obtain ⟨xs, q⟩ := r.lists b hb
      exact ⟨xs, by rw [upd_ne e]; exact q⟩
  · obtain ⟨v, e, o⟩ := r.slot i n d F h1 h2 h3
    refine ⟨v, e, ?_⟩
    rw [hid_upd hao]
    refine o.mono (Same.refl _) fun b u hb hu => ?_
    rw [upd_ne fun z => ?_]
    · exact hu
    · subst z
      exact m3 b ha b (List.mem_flatten.mpr ⟨F, List.mem_of_getElem? h3, hb⟩) rfl
/-- how far a comprehension has come -/
structure LcW (K : PySem.W.Frag) (tp : TP) (Z : Hp) (fl : List Nat) (Fs : Ow) (σ : L2.St) (ρ : Env) (H1 : Hp) (L : Addr) (n : Nat) (H : Hp) (t : Tape) (acc : List V) (ads : List D) (Gs : List (List Addr)) (E : List Addr) : Prop where
  rel : RelF K tp Z fl ⟨E ++ Fs.e, Fs.s⟩ H σ ρ t
  mem : ∀ a, a ∈ E ↔ a ∈ L :: Gs.flatten
  nd : (L :: Gs.flatten).Nodup
  same : SameX tp H1 H
  new : ∀ a ∈ L :: Gs.flatten, H1 a = none
  at_ : H L = some (.lst acc)
  l1 : acc.length = ads.length
  l2 : Gs.length = ads.length
  its : ∀ (i : Nat) (v : V) (d : D) (G : List Addr), acc[i]? = some v → ads[i]? = some d → Gs[i]? = some G → OwnN K tp n (hid (ours tp ⟨E ++ Fs.e, Fs.s⟩) H) H v d G
section
variable {X : Cx} {tp : TP} {B : Hp} {fl fl' fl1 ws vs : List Nat} {e e2 a b c tg iter elt : Expr} {es rest ifs : List Expr} {k ka kb kc : Kd} {m ma mb mc me : EM} {ba bb : BM} {mr : AM} {mi : IM} {g : GM} {pos : Pos} {lv n : Nat} {lp fl2 : List Nat} {st : Stmt} {sts sts2 : List Stmt} {sm sm1 sm2 : SM}
/-- a state that is later -/
theorem LcW.later {K : PySem.W.Frag} {Z : Hp} {Fs : Ow} {σ : L2.St} {ρ : Env} {H1 H H' : Hp} {L : Addr} {t t' : Tape} {acc : List V} {ads : List D} {Gs : List (List Addr)} {E : List Addr} (w : LcW K tp Z fl Fs σ ρ H1 L n H t acc ads Gs E)
    (s : SameX tp H H') (ta : TapeAt tp H' t') (nt : ∀ a ∈ L :: Gs.flatten, a ∉ tpl tp) : LcW K tp Z fl Fs σ ρ H1 L n H' t' acc ads Gs E := by
  refine ⟨w.rel.step s ta, w.mem, w.nd, w.same.trans s, w.new, s _ _ w.at_ (nt L List.mem_cons_self), w.l1, w.l2, fun i v d G h1 h2 h3 => (w.its i v d G h1 h2 h3).mono (hid_step w.rel.ok s) fun b u hb hu => s b u hu (nt b ?_)⟩
  exact List.mem_cons_of_mem _ (List.mem_flatten.mpr ⟨G, List.mem_of_getElem? h3, hb⟩)
/-- the list L grows by an item of ours -/
theorem LcW.grow {K : PySem.W.Frag} {Z : Hp} {Fs : Ow} {σ : L2.St} {ρ : Env} {H1 H H' : Hp} {L : Addr} {t t' t2 : Tape} {acc : List V} {ads : List D} {Gs : List (List Addr)} {E : List Addr} (w : LcW K tp Z fl Fs σ ρ H1 L n H t acc ads Gs E)
    {v : V} {d : D} (s : SameX tp H H') (ta : TapeAt tp H' t') {F : List Addr} (nd : F.Nodup) (hF : ∀ a ∈ F, H a = none) (ow : OwnN K tp n (hid (F ++ ours tp ⟨E ++ Fs.e, Fs.s⟩) H') H' v d F) (t1 : TapeAt tp H t2) (nt : ∀ a ∈ L :: Gs.flatten, a ∉ tpl tp) :
    LcW K tp Z fl Fs σ ρ H1 L n (upd H' L (.lst (acc ++ [v]))) t' (acc ++ [v]) (ads ++ [d]) (Gs ++ [F]) (F ++ E) := by
  have ex : RelF K tp Z fl ⟨(F ++ E) ++ Fs.e, Fs.s⟩ H' σ ρ t' := by
    have q := w.rel.ext s ta nd hF ow.lists
    simp only [List.append_assoc] at q ⊢
    exact q
  have eo : ours tp ⟨(F ++ E) ++ Fs.e, Fs.s⟩ = F ++ ours tp ⟨E ++ Fs.e, Fs.s⟩ := by unfold ours; simp only [List.append_assoc]
  have hL : L ∈ E := (w.mem L).mpr List.mem_cons_self
  have hLF : L ∉ F := fun z => by have q := hF L z; rw [w.at_] at q; cases q
  have old : ∀ a ∈ L :: Gs.flatten, ∃ xs, H a = some (.lst xs) := fun a ha => w.rel.lists a (List.mem_append_left _ (List.mem_append_left _ ((w.mem a).mpr ha)))
  have flat : (Gs ++ [F]).flatten = Gs.flatten ++ F := by simp
  have hLo : L ∈ ours tp ⟨(F ++ E) ++ Fs.e, Fs.s⟩ := List.mem_append_left _ (List.mem_append_left _ (List.mem_append_left _ (List.mem_append_right _ hL)))
  have keepL : ∀ b, b ≠ L → ∀ u, H' b = some u → (upd H' L (.lst (acc ++ [v]))) b = some u := fun b nb u q => by rw [upd_ne nb]; exact q
  refine ⟨ex.updE (List.mem_append_left _ (List.mem_append_right _ hL)) _, fun a => ?_, ?_, ?_, fun a ha => ?_, upd_same, by simp [w.l1], by simp [w.l2], fun i v' d' G h1 h2 h3 => ?_⟩
  · rw [flat, List.mem_append, w.mem a]
    simp only [List.mem_cons, List.mem_append]
    constructor
    · rintro (h | h | h)
      · exact .inr (.inr h)
      · exact .inl h
      · exact .inr (.inl h)
    · rintro (h | h | h)
      · exact .inr (.inl h)
      · exact .inr (.inr h)
      · exact .inl h
  · rw [flat, ← List.cons_append]
    exact List.nodup_append.mpr ⟨w.nd, nd, fun x hx y hy e => by
      subst e
      obtain ⟨xs, q⟩ := old x hx
      rw [hF x hy] at q; cases q⟩
  · intro b u q nb
    by_cases e : b = L
    · rw [e, w.new L List.mem_cons_self] at q
      cases q
    · exact keepL b e u (s b u (w.same b u q nb) nb)
  · rw [flat, ← List.cons_append] at ha
    rcases List.mem_append.mp ha with ha | ha
    · exact w.new a ha
    · exact w.same.back w.rel.tape (hF a ha)
  · rw [hid_upd hLo, eo]
    by_cases hi : i < acc.length
    · rw [List.getElem?_append_left hi] at h1
      rw [List.getElem?_append_left (by have := w.l1; omega)] at h2
      rw [List.getElem?_append_left (by have := w.l1; have := w.l2; omega)] at h3
      have hG : ∀ b ∈ G, b ∈ Gs.flatten := fun b hb => List.mem_flatten.mpr ⟨G, List.mem_of_getElem? h3, hb⟩
      refine (w.its i v' d' G h1 h2 h3).mono (fun b u q => ?_) fun b u hb hu => ?_
      · obtain ⟨q1, q2⟩ := hid_some q
        refine hid_of (fun z => ?_) (s b u q2 fun z => q1 (RelF.tsub b z))
        rcases List.mem_append.mp z with z | z
        · rw [hF b z] at q2; cases q2
        · exact q1 z
      · refine keepL b (fun z => ?_) u (s b u hu (nt b (List.mem_cons_of_mem _ (hG b hb))))
        subst z
        exact (List.nodup_cons.mp w.nd).1 (hG b hb)
    · have hi2 : i = acc.length := by
        have := (List.getElem?_eq_some_iff.mp h1).1
        simp at this; omega
      subst hi2
      rw [List.getElem?_append_right (Nat.le_refl _), Nat.sub_self] at h1
      rw [w.l1, List.getElem?_append_right (Nat.le_refl _), Nat.sub_self] at h2
      rw [w.l1, ← w.l2, List.getElem?_append_right (Nat.le_refl _), Nat.sub_self] at h3
      cases h1; cases h2; cases h3
      exact ow.mono (Same.refl _) fun b u hb hu => keepL b (fun z => hLF (by rw [← z]; exact hb)) u hu
theorem PE.ex {α : Type} {t : α → TE} (h : ∀ z, PE X e (t z)) : PE X e (fun σ H Q => ∃ z, t z σ H Q) := ⟨fun pins s σ H Q I ⟨z, q⟩ => (h z).run pins s σ H Q I q⟩
theorem PTs.ex {α : Type} {t : α → TT} (h : ∀ z, PTs X ifs (t z)) : PTs X ifs (fun σ H Q => ∃ z, t z σ H Q) := ⟨fun pins s σ H Q I ⟨z, q⟩ => (h z).run pins s σ H Q I q⟩
/-- a comprehension's reading -/
theorem lc_of {K : PySem.W.Frag} (hz : ∀ v ∈ vs, fl[v]? = some 0) (hws : ∀ j ∈ ws, j ∈ vs) {σ : L2.St} {H : Hp} {Q : VK} (h : tE K tp B fl (.o (n + 1)) (mLc mi g ba me vs) σ H Q) :
    tLc (tI K tp B fl mi) (fun v σ H Q => ∃ Z, tG K tp Z fl fl1 ws g v σ H Q) (fun σ H Q => ∃ Z, tT K tp Z fl1 ba σ H Q) (fun σ H Q => ∃ Z, tE K tp Z fl1 (.o n) me σ H Q) vs σ H Q := by
  obtain ⟨Fs, ρ, t, d, t', R, hm, q⟩ := h
  obtain ⟨⟨ds, t1⟩, h1, h2⟩ := bind_some hm
  obtain ⟨⟨l, t3⟩, h3, h4⟩ := bind_some h2
  simp only at h3 h4
  split at h4
  case isFalse => cases h4
  rename_i hsm
  cases h4
  refine ⟨Fs, ρ, t, ds, t1, R, h1, fun J H1 s1 ta1 it L hL => ?_⟩
  obtain ⟨Y, wk, sp⟩ := it
  have R1 := R.step s1 ta1
  have hws0 : ∀ j ∈ ws, fl[j]? = some 0 := fun j hj => hz j (hws j hj)
  generalize hZ : hid (ours tp Fs) H1 = Z at wk sp
  have hZL : Z L = none := by
    cases e : Z L with
    | none => rfl
    | some u => rw [← hZ] at e; have q := (hid_some e).2; rw [hL] at q; cases q
  have RZ1 : RelF K tp Z fl Fs H1 (L2.wipe σ vs) (wipeE ρ vs) t1 := by rw [← hZ]; exact R1.upbase.wipe vs
  have ntL : ∀ (a : Addr), H1 a = none → a ∉ tpl tp := fun a ha z => by
    obtain ⟨xs, e⟩ := ta1.lists a z
    rw [ha] at e; cases e
  have W0 : LcW K tp Z fl Fs (L2.wipe σ vs) (wipeE ρ vs) H1 L n (upd H1 L (.lst [])) t1 [] [] [] [L] := by
    have ex := RZ1.ext (F := [L]) (H' := upd H1 L (.lst [])) (.new hL) (ta1.new hL) (by simp) (fun a ha => by rw [List.mem_singleton.mp ha]; exact hL) fun a ha => by rw [List.mem_singleton.mp ha]; exact ⟨_, upd_same⟩
    refine ⟨ex, fun a => by simp, by simp, .new hL, fun a ha => ?_, upd_same, rfl, rfl, fun i v d G h1 => by simp at h1⟩
    have : a = L := by simpa using ha
    rw [this]; exact hL
  refine ⟨fun i m H => m = ds.length - i ∧ i ≤ ds.length ∧ ∃ t acc ads Gs E r, LcW K tp Z fl Fs (L2.wipe σ vs) (wipeE ρ vs) H1 L n H t acc ads Gs E ∧ lcL g ba me (wipeE ρ vs) (ds.drop i) t = some (r, t') ∧ ads ++ r = l,
    ⟨ds.length, rfl, Nat.zero_le _, t1, [], [], [], [L], l, W0, h3, rfl⟩, ?_⟩
  rintro i m H2 ⟨rfl, hi2, t2, acc, ads, Gs, E, r, w, h5, h6⟩
  have hG : Same Z H2 := w.rel.now
  have nt : ∀ a ∈ L :: Gs.flatten, a ∉ tpl tp := fun a ha => ntL a (w.new a ha)
  by_cases hlt : i < ds.length
  · refine .inr ⟨wk.goes i H2 hlt hG, fun H' => ∃ t acc ads Gs E r, LcW K tp Z fl Fs (L2.wipe σ vs) (wipeE ρ vs) H1 L n H' t acc ads Gs E ∧ lcL g ba me (wipeE ρ vs) (ds.drop (i + 1)) t = some (r, t') ∧ ads ++ r = l, fun H' h => ⟨ds.length - (i + 1), by omega, rfl, hlt, h⟩, fun x H' y => ?_⟩
    have hd : ds[i]? = some ds[i] := List.getElem?_eq_getElem hlt
    obtain ⟨sx, tx, rx⟩ := item_of w.rel w.rel.base (sp i H2 x H' ds[i] hd hG (wk.yields i H2 x H' hlt hG y))
    rw [List.drop_eq_getElem_cons hlt] at h5
    obtain ⟨ρ3, e1, e2⟩ := bind_some h5
    obtain ⟨⟨bz, t4⟩, e3, e4⟩ := bind_some e2
    simp only at e4
    have w1 := w.later sx tx nt
    refine ⟨Z, _, _, t2, ds[i], ρ3, w1.rel, rx, e1, fun σ4 Gs4 st R4 => ⟨?_, Z, Gs4, ρ3, t2, bz, t4, R4, e3, fun H5 s5 ta5 => ?_⟩⟩
    · have q := wipe_eq (vs := vs) st.len fun j hj => st.out j fun z => hj (hws j z)
      rw [q, wipe_idem]
    · have w2 := w1.later s5 ta5 nt
      cases bz with
      | false =>
        simp only [Bool.false_eq_true, if_false] at e4 ⊢
        exact ⟨t4, acc, ads, Gs, E, r, w2, e4, h6⟩
      | true =>
        simp only [if_true] at e4 ⊢
        obtain ⟨⟨y1, t5⟩, e5, e6⟩ := bind_some e4
        simp only at e6
        cases e7 : lcL g ba me (wipeE ρ vs) (ds.drop (i + 1)) t5 with
        | none => rw [e7] at e6; cases e6
        | some rr =>
          rw [e7] at e6
          obtain ⟨r2, t6⟩ := rr
          cases e6
          refine ⟨Z, Gs4, ρ3, t4, y1, t5, R4.step s5 ta5, e5, fun v6 H6 r6 => ?_⟩
          obtain ⟨F, nd, hF, ow⟩ := r6.val
          have same : ∀ a, a ∈ F ++ ours tp ⟨E ++ Fs.e, Fs.s⟩ → a ∈ F ++ ours tp Gs4 := fun a ha => (List.mem_append.mp ha).elim (fun z => List.mem_append_left _ z) fun z => List.mem_append_right _ (st.sup hws0 a z)
          have same' : ∀ a, a ∈ F ++ ours tp Gs4 → a ∈ F ++ ours tp ⟨E ++ Fs.e, Fs.s⟩ := fun a ha => (List.mem_append.mp ha).elim (fun z => List.mem_append_left _ z) fun z => List.mem_append_right _ (st.sub a z)
          have ow2 : OwnN K tp n (hid (F ++ ours tp ⟨E ++ Fs.e, Fs.s⟩) H6) H6 v6 y1 F := ow.mono (hid_same_of same) fun b u _ q => q
          have g1 := w2.grow r6.same r6.tape nd hF ow2 w2.rel.tape nt
          have hs : (ads ++ y1 :: r2).length ≤ 100000 := by rw [h6]; exact of_sml hsm
          refine ⟨acc, r6.same _ _ w2.at_ (nt L List.mem_cons_self), ?_, t5, acc ++ [v6], ads ++ [y1], Gs ++ [F], F ++ E, r2, g1, e7, by rw [List.append_assoc]; exact h6⟩
          have hl := w.l1
          simp only [List.length_append, List.length_cons] at hs
          exact Nat.lt_of_lt_of_le (show acc.length < 100001 by omega) (by decide)
  · have e : i = ds.length := by omega
    subst e
    rw [List.drop_length] at h5
    cases h5
    rw [List.append_nil] at h6
    subst h6
    refine .inl ⟨wk.stops H2 hG, q _ _ ⟨s1.trans w.same, w.rel.tape, L :: Gs.flatten, w.nd, fun a ha => s1.back ta1 (w.new a ha), L, acc, ads, Gs, rfl, rfl, w.at_, w.l1, w.l2, rfl, fun i v d G h1 h2 h3 => (w.its i v d G h1 h2 h3).mono (hid_same_of fun a ha => ?_) fun b u _ q => q⟩⟩
    rw [ours_ext]
    rcases List.mem_append.mp ha with z | z
    · exact List.mem_append_left _ ((w.mem a).mpr z)
    · exact List.mem_append_right _ z
theorem fe_lc {scope : Scope} {own : List (Str × Nat)} (hc : X.calm = true) (hN : X.N.Nodup) (hi : FI X tp B fl tg iter mi) (ok : BlkOk X.N X.env.scope scope own)
    (hg : ∀ (Z : Hp) (s : Shared) (H : Hp) (C : Addr) (cl : List (Str × Addr)) (fp : List Addr), FG (X.blk s H scope (compEnvC scope cl C X.env) fp) tp Z fl fl1 ws tg g)
    (ht : ∀ (Z : Hp) (s : Shared) (H : Hp) (C : Addr) (cl : List (Str × Addr)) (fp : List Addr), FTs (X.blk s H scope (compEnvC scope cl C X.env) fp) tp Z fl1 ifs ba)
    (he : ∀ (Z : Hp) (s : Shared) (H : Hp) (C : Addr) (cl : List (Str × Addr)) (fp : List Addr), FE (X.blk s H scope (compEnvC scope cl C X.env) fp) tp Z fl1 elt (.o n) me)
    (hz : ∀ v ∈ own.map (·.2), fl[v]? = some 0) (hws : ∀ j ∈ ws, j ∈ own.map (·.2)) (hs : ∀ x, foldedSetIterable iter X.env x = pure x := by intro _; rfl) : FE X tp B fl (.ListComp elt [⟨tg, iter, ifs, 0⟩] scope pos) (.o (n + 1)) (mLc mi g ba me (own.map (·.2))) :=
  PE.imp (pe_lc hc hN hi ok (fun s H C cl fp => PG.ex (t := fun Z => tG X.K tp Z fl fl1 ws g) fun Z => hg Z s H C cl fp) (fun s H C cl fp => PTs.ex (t := fun Z => tT X.K tp Z fl1 ba) fun Z => ht Z s H C cl fp) (fun s H C cl fp => PE.ex (t := fun Z => tE X.K tp Z fl1 (.o n) me) fun Z => he Z s H C cl fp) hs) fun σ H Q h => lc_of hz hws h
theorem fs_setLc {i : Nat} {y : Str} {py spos : Pos} {scope : Scope} {own : List (Str × Nat)} (hc : X.calm = true) (hN : X.N.Nodup) (hy : X.N[i]? = some y) (hyl : X.env.scope.names.lookup y = some .local)
    (hsw : swapsWith (.ListComp elt [⟨tg, iter, ifs, 0⟩] scope pos) (some (.Name y py)) spos.line X.env = pure true) (hi : FI X tp B fl tg iter mi) (ok : BlkOk X.N X.env.scope scope own)
    (hg : ∀ (Z : Hp) (s : Shared) (H : Hp) (C : Addr) (cl : List (Str × Addr)) (fp : List Addr), FG (X.blk s H scope (compEnvC scope cl C X.env) fp) tp Z fl fl1 ws tg g)
    (ht : ∀ (Z : Hp) (s : Shared) (H : Hp) (C : Addr) (cl : List (Str × Addr)) (fp : List Addr), FTs (X.blk s H scope (compEnvC scope cl C X.env) fp) tp Z fl1 ifs ba)
    (he : ∀ (Z : Hp) (s : Shared) (H : Hp) (C : Addr) (cl : List (Str × Addr)) (fp : List Addr), FE (X.blk s H scope (compEnvC scope cl C X.env) fp) tp Z fl1 elt (.o n) me)
    (hz : ∀ v ∈ own.map (·.2), fl[v]? = some 0) (hws : ∀ j ∈ ws, j ∈ own.map (·.2)) (hfl : fl' = fl.set i (n + 1) := by rfl) (hs : ∀ x, foldedSetIterable iter X.env x = pure x := by intro _; rfl) :
    FS X tp B lv lp fl fl' (.Assign [.Name y py] (.ListComp elt [⟨tg, iter, ifs, 0⟩] scope pos) spos) (mSet i (mLc mi g ba me (own.map (·.2)))) :=
  PS.imp (ps_setLc hc hN hy hyl hsw hi ok (fun s H C cl fp => PG.ex (t := fun Z => tG X.K tp Z fl fl1 ws g) fun Z => hg Z s H C cl fp) (fun s H C cl fp => PTs.ex (t := fun Z => tT X.K tp Z fl1 ba) fun Z => ht Z s H C cl fp) (fun s H C cl fp => PE.ex (t := fun Z => tE X.K tp Z fl1 (.o n) me) fun Z => he Z s H C cl fp) hs) fun D σ H ⟨Fs, ρ, t, o, R, hm, q⟩ => by
    obtain ⟨d, t', h1, rfl⟩ := mSet_some hm
    subst hfl
    refine lc_of hz hws ⟨Fs, ρ, t, d, t', R, h1, fun v H' r => ?_⟩
    obtain ⟨F, nd, hF, ow⟩ := r.val
    refine q _ _ _ (RelF.store (F := F) (E := Fs.e) (S := Fs.s) (R.ext r.same r.tape nd hF ow.lists) i ?_)
    have eo : ours tp ⟨F ++ Fs.e, Fs.s⟩ = F ++ ours tp Fs := by unfold ours; simp only [List.append_assoc]
    rw [eo]
    exact ow
end
end FL
set_option maxRecDepth 100000
set_option maxHeartbeats 2000000
noncomputable section
namespace FL
open PySem PySem.Spec PyProof.Rows L2

/-! ### isinstance -/
def dKind : D → String
  | .non => "NoneType"
  | .bl _ => "bool"
  | .int _ => "int"
  | .str _ => "str"
  | .tup _ => "tuple"
  | .lst _ => "list"
  | .tape => "list"
def oIsi (T : String) (d : D) : Option D := (kitB (dKind d) T).map D.bl
theorem kb_int_int : kitB "int" "int" = some true := by decide +kernel
theorem kb_bool_int : kitB "bool" "int" = some true := by decide +kernel
theorem kb_none_int : kitB "NoneType" "int" = some false := by decide +kernel
theorem kb_str_int : kitB "str" "int" = some false := by decide +kernel
theorem kb_tuple_int : kitB "tuple" "int" = some false := by decide +kernel
theorem kb_list_int : kitB "list" "int" = some false := by decide +kernel
theorem kb_int_bool : kitB "int" "bool" = some false := by decide +kernel
theorem kb_bool_bool : kitB "bool" "bool" = some true := by decide +kernel
theorem kb_none_bool : kitB "NoneType" "bool" = some false := by decide +kernel
theorem kb_str_bool : kitB "str" "bool" = some false := by decide +kernel
theorem kb_tuple_bool : kitB "tuple" "bool" = some false := by decide +kernel
theorem kb_list_bool : kitB "list" "bool" = some false := by decide +kernel
theorem kb_int_tuple : kitB "int" "tuple" = some false := by decide +kernel
theorem kb_bool_tuple : kitB "bool" "tuple" = some false := by decide +kernel
theorem kb_none_tuple : kitB "NoneType" "tuple" = some false := by decide +kernel
theorem kb_str_tuple : kitB "str" "tuple" = some false := by decide +kernel
theorem kb_tuple_tuple : kitB "tuple" "tuple" = some true := by decide +kernel
theorem kb_list_tuple : kitB "list" "tuple" = some false := by decide +kernel
theorem kb_int_str : kitB "int" "str" = some false := by decide +kernel
theorem kb_bool_str : kitB "bool" "str" = some false := by decide +kernel
theorem kb_none_str : kitB "NoneType" "str" = some false := by decide +kernel
theorem kb_str_str : kitB "str" "str" = some true := by decide +kernel
theorem kb_tuple_str : kitB "tuple" "str" = some false := by decide +kernel
theorem kb_list_str : kitB "list" "str" = some false := by decide +kernel
@[simp] theorem isi_int (d : D) : oIsi "int" d = some (.bl (match d with | .int _ => true | .bl _ => true | _ => false)) := by
  cases d <;> simp only [oIsi, dKind, kb_int_int, kb_bool_int, kb_none_int, kb_str_int, kb_tuple_int, kb_list_int, Option.map_some]
@[simp] theorem isi_bool (d : D) : oIsi "bool" d = some (.bl (match d with | .bl _ => true | _ => false)) := by
  cases d <;> simp only [oIsi, dKind, kb_int_bool, kb_bool_bool, kb_none_bool, kb_str_bool, kb_tuple_bool, kb_list_bool, Option.map_some]
@[simp] theorem isi_tuple (d : D) : oIsi "tuple" d = some (.bl (match d with | .tup _ => true | _ => false)) := by
  cases d <;> simp only [oIsi, dKind, kb_int_tuple, kb_bool_tuple, kb_none_tuple, kb_str_tuple, kb_tuple_tuple, kb_list_tuple, Option.map_some]
@[simp] theorem isi_str (d : D) : oIsi "str" d = some (.bl (match d with | .str _ => true | _ => false)) := by
  cases d <;> simp only [oIsi, dKind, kb_int_str, kb_bool_str, kb_none_str, kb_str_str, kb_tuple_str, kb_list_str, Option.map_some]
section
variable {X : Cx} {tp : TP} {B : Hp} {fl fl' fl1 ws vs : List Nat} {e e2 a b c tg iter elt : Expr} {es rest ifs : List Expr} {k ka kb kc : Kd} {m ma mb mc me : EM} {ba bb : BM} {mr : AM} {mi : IM} {g : GM} {pos : Pos} {lv n : Nat} {lp fl2 : List Nat} {st : Stmt} {sts sts2 : List Stmt} {sm sm1 sm2 : SM}
theorem Rp.ty {K : PySem.W.Frag} {H : Hp} {v : V} {d : D} (h : Rp K tp H v d) (nt : d.sc ≠ none ∨ ∃ l, d = .tup l ∨ d = .lst l) : TyX K H v (.type (dKind d)) := by
  cases h with
  | non => exact .base .non
  | bl b => exact .base (.bl b)
  | int i => exact .base (.int i)
  | str x => exact .base (.str x)
  | tup q _ _ =>
    rcases q with (q | ⟨o, q⟩) | ⟨o, its, n, q, c, _⟩
    · exact .base (.tup q)
    · exact .fTuple q
    · exact .kTuple q c
  | lst q _ _ => exact .base (.lst q)
  | tape e =>
    rcases nt with q | ⟨l, q | q⟩
    · exact absurd rfl q
    · cases q
    · cases q
theorem fe_isi (T : String) {p p2 : Pos} (hg : Gl X "isinstance") (hm : X.mg "isinstance" = none) (hgT : Gl X (Str.ofString T)) (hmT : X.mg (Str.ofString T) = none) (hvT : bootBuiltins (Str.ofString T) = some (.type T)) (ha : FE X tp B fl e k m)
    (hT : T = "int" ∨ T = "bool" ∨ T = "tuple" ∨ T = "str") (hnT : Str.ofString T ≠ "__name__" := by decide) (hdT : (Str.ofString T == ("__debug__" : Str)) = false := by decide)
    (h1 : starEach [e, .Name (Str.ofString T) p2] X.env = (false, eval e X.env) :: starEach [.Name (Str.ofString T) p2] X.env := by rfl) (h2 : starEach [.Name (Str.ofString T) p2] X.env = (false, eval (.Name (Str.ofString T) p2) X.env) :: starEach [] X.env := by rfl)
    (hpl : (backTo pos (starEach [.Name (Str.ofString T) p2] X.env)).any (·.1) = false := by rfl) : FE X tp B fl (.Call (.Name "isinstance" p) [e, .Name (Str.ofString T) p2] [] pos) (.o 0) (mUn (oIsi T) m) :=
  PE.imp (pe_callB call_isi hg hm PyProof.Rows.boot_isinstance (pa_cons ha (pa_cons (pe_bltn (v := .ty T) hgT hmT hvT rfl hnT hdT) pa_nil h2) h1) (by decide) (by decide) h1 hpl) fun σ H Q ⟨Fs, ρ, t, d, t', R, hm', q⟩ => by
    obtain ⟨x, e1, e2⟩ := mUn_some hm'
    refine ⟨Fs, ρ, t, x, t', R, e1, fun v H1 r => ?_⟩
    by_cases nt : x.sc ≠ none ∨ ∃ l, x = .tup l ∨ x = .lst l
    · unfold oIsi at e2
      cases e3 : kitB (dKind x) T with
      | none => rw [e3] at e2; cases e2
      | some b =>
        rw [e3] at e2
        cases e2
        exact ⟨v, .ty T, _, _, b, rfl, .ty T, (r.inn R.ok).all.ty nt, kit_ty e3, q _ _ (.trans r.same r.tape (.sc r.tape rfl))⟩
    · cases x with
      | tape =>
        -- the tape is a list
        have i := (r.inn R.ok).all
        cases i with
        | tape e =>
          obtain ⟨_, ea, _⟩ := r.tape _ _ e
          unfold oIsi at e2
          cases e3 : kitB (dKind .tape) T with
          | none => rw [e3] at e2; cases e2
          | some b =>
            rw [e3] at e2
            cases e2
            exact ⟨_, .ty T, _, _, b, rfl, .ty T, .base (.lst ea), kit_ty e3, q _ _ (.trans r.same r.tape (.sc r.tape rfl))⟩
      | tup l => exact absurd (.inr ⟨l, .inl rfl⟩) nt
      | lst l => exact absurd (.inr ⟨l, .inr rfl⟩) nt
      | non => exact absurd (.inl (by simp [D.sc])) nt
      | bl b => exact absurd (.inl (by simp [D.sc])) nt
      | int b => exact absurd (.inl (by simp [D.sc])) nt
      | str b => exact absurd (.inl (by simp [D.sc])) nt

/-! ### lists of ours that change -/
/-- a list of ours at a, of slot i, is changed -/
theorem RelF.mut {K : PySem.W.Frag} {H : Hp} {σ : L2.St} {ρ : Env} {t : Tape} {F E : List Addr} {S : List (List Addr)} (r : RelF K tp B fl ⟨F ++ E, S⟩ H σ ρ t) (i : Nat) {G G' : List Addr} {a : Addr} {ys : List V} {v : V} {d : D}
    (hn : fl[i]? = some (n + 1)) (hG : S[i]? = some G) (ha : a ∈ G) (hG' : ∀ b ∈ G', b ∈ G ∨ b ∈ F) (nd : G'.Nodup) (hv : σ[i]? = some (some v)) (ow : OwnN K tp (n + 1) (hid (ours tp ⟨F ++ E, S⟩) H) (upd H a (.lst ys)) v d G') :
    RelF K tp B fl ⟨E, S.set i G'⟩ (upd H a (.lst ys)) σ (ρ.set i (some d)) t := by
  have l1 := r.l1
  have l2 := r.l2
  have l3 : S.length = σ.length := r.l3
  have hi : i < S.length := (List.getElem?_eq_some_iff.mp hG).1
  have haS : a ∈ S.flatten := List.mem_flatten.mpr ⟨G, List.mem_of_getElem? hG, ha⟩
  have hao : a ∈ ours tp ⟨F ++ E, S⟩ := List.mem_append_left _ (List.mem_append_right _ haS)
  obtain ⟨n1, n2, n3⟩ := List.nodup_append.mp r.nd
  obtain ⟨m1, m2, m3⟩ := List.nodup_append.mp n1
  obtain ⟨p1, p2, p3⟩ := List.nodup_append.mp m1
  have nt : a ∉ tpl tp := fun z => n3 a (List.mem_append_right _ haS) a z rfl
  have pw := List.pairwise_iff_getElem.mp (List.pairwise_flatten.mp m2).2
  have apart : ∀ (j : Nat) (Gj : List Addr), j ≠ i → S[j]? = some Gj → ∀ b ∈ Gj, b ∉ G := fun j Gj hj e b hb hbG => by
    obtain ⟨hj', ej⟩ := List.getElem?_eq_some_iff.mp e
    obtain ⟨_, ei⟩ := List.getElem?_eq_some_iff.mp hG
    rw [← ej] at hb
    rw [← ei] at hbG
    rcases Nat.lt_or_gt_of_ne hj with q | q
    · exact pw j i hj' hi q b hb b hbG rfl
    · exact pw i j hi hj' q b hbG b hb rfl
  -- the state over the changed heap, with the old parts
  have memb : ∀ b, b ∈ E ++ (S.set i G').flatten → b ∈ (F ++ E) ++ S.flatten := fun b hb => by
    rcases List.mem_append.mp hb with z | z
    · exact List.mem_append_left _ (List.mem_append_right _ z)
    · rcases mem_flatten_set z with z | z
      · rcases hG' b z with z | z
        · exact List.mem_append_right _ (List.mem_flatten.mpr ⟨G, List.mem_of_getElem? hG, z⟩)
        · exact List.mem_append_left _ (List.mem_append_left _ z)
      · exact List.mem_append_right _ z
  have sub := sub_ours (Fs := ⟨F ++ E, S⟩) (Gs := ⟨E, S.set i G'⟩) (tp := tp) (H := upd H a (.lst ys)) memb
  have eh : hid (ours tp ⟨F ++ E, S⟩) (upd H a (.lst ys)) = hid (ours tp ⟨F ++ E, S⟩) H := hid_upd hao
  -- no name twice in what stays
  have nd2 : ∀ (L : List (List Addr)) (j : Nat), L.flatten.Nodup → (∀ k Gk, k ≠ j → L[k]? = some Gk → ∀ b ∈ Gk, b ∉ G') → (L.set j G').flatten.Nodup := by
    intro L
    induction L with
    | nil => intro j _ _; simp
    | cons x L ih =>
      intro j h1 h2
      simp only [List.flatten_cons] at h1
      obtain ⟨q1, q2, q3⟩ := List.nodup_append.mp h1
      cases j with
      | zero =>
        simp only [List.set_cons_zero, List.flatten_cons]
        refine List.nodup_append.mpr ⟨nd, q2, fun b hb c hc e => ?_⟩
        subst e
        obtain ⟨Gk, hGk, hbk⟩ := List.mem_flatten.mp hc
        obtain ⟨k, hk, ek⟩ := List.mem_iff_getElem.mp hGk
        exact h2 (k + 1) Gk (by omega) (by simpa using (List.getElem?_eq_some_iff.mpr ⟨hk, ek⟩)) b hbk hb
      | succ j =>
        simp only [List.set_cons_succ, List.flatten_cons]
        refine List.nodup_append.mpr ⟨q1, ih j q2 fun k Gk hk e => h2 (k + 1) Gk (by omega) (by simpa using e), fun b hb c hc e => ?_⟩
        subst e
        rcases mem_flatten_set hc with z | z
        · exact h2 0 x (by omega) rfl b hb z
        · exact q3 b hb b z rfl
  have r' : RelF K tp B fl ⟨F ++ E, S⟩ (upd H a (.lst ys)) σ (ρ.set i none) t := by
    refine ⟨l1, by simp [l2], l3, r.nd, r.tape.upd nt, by rw [eh]; exact r.base, fun b hb => ?_, r.z, fun j m' d' Gj h1 h2 h3 => ?_⟩
    · by_cases e : b = a
      · subst e; exact ⟨ys, upd_same⟩
      · obtain ⟨xs, q⟩ := r.lists b hb
        exact ⟨xs, by rw [upd_ne e]; exact q⟩
    · by_cases hj : i = j
      · subst hj
        rw [List.getElem?_set_self (by omega)] at h2; cases h2
      · rw [List.getElem?_set_ne hj] at h2
        obtain ⟨w, e, o⟩ := r.slot j m' d' Gj h1 h2 h3
        refine ⟨w, e, ?_⟩
        rw [eh]
        refine o.mono (Same.refl _) fun b u hb hu => ?_
        rw [upd_ne fun z => ?_]
        · exact hu
        · subst z
          exact apart j Gj (fun z => hj z.symm) h3 b hb ha
  refine r'.move l1 (by simp [l2]) (by simp [l3]) memb (List.nodup_append.mpr ⟨p2, nd2 S i m2 fun k Gk hk e b hb hb' => ?_, fun b hb c hc e => ?_⟩) (fun j Gj h1 h2 => ?_) fun j m' d' Gj h1 h2 h3 => ?_
  · rcases hG' b hb' with z | z
    · exact apart k Gk hk e b hb z
    · exact m3 b (List.mem_append_left _ z) b (List.mem_flatten.mpr ⟨Gk, List.mem_of_getElem? e, hb⟩) rfl
  · subst e
    rcases mem_flatten_set hc with z | z
    · rcases hG' b z with z | z
      · exact m3 b (List.mem_append_right _ hb) b (List.mem_flatten.mpr ⟨G, List.mem_of_getElem? hG, z⟩) rfl
      · exact p3 b z b hb rfl
    · exact m3 b (List.mem_append_right _ hb) b z rfl
  · have hj : i ≠ j := fun z => by subst z; rw [hn] at h1; cases h1
    rw [show (Ow.s ⟨E, S.set i G'⟩) = S.set i G' from rfl, List.getElem?_set_ne hj] at h2
    exact r.z j Gj h1 h2
  · by_cases hj : i = j
    · subst hj
      rw [hn] at h1
      rw [List.getElem?_set_self (by omega)] at h2
      rw [show (Ow.s ⟨E, S.set i G'⟩) = S.set i G' from rfl, List.getElem?_set_self hi] at h3
      cases h1; cases h2; cases h3
      exact ⟨v, hv, ow.mono (by rw [← eh]; exact sub) fun b u _ q => q⟩
    · rw [List.getElem?_set_ne hj] at h2
      rw [show (Ow.s ⟨E, S.set i G'⟩) = S.set i G' from rfl, List.getElem?_set_ne hj] at h3
      obtain ⟨w, e, o⟩ := r'.slot j m' d' Gj h1 (by rw [List.getElem?_set_ne hj]; exact h2) h3
      exact ⟨w, e, o.mono sub fun b u _ q => q⟩
end
end FL
set_option maxRecDepth 100000
set_option maxHeartbeats 2000000
noncomputable section
namespace FL
open PySem PySem.Spec PyProof.Rows L2
section
variable {X : Cx} {tp : TP} {B : Hp} {fl fl' fl1 ws vs : List Nat} {e e1 e2 e3 a b c tg iter elt : Expr} {es rest ifs : List Expr} {k ka kb kc : Kd} {m ma mb mc me : EM} {ba bb : BM} {mr : AM} {mi : IM} {g : GM} {pos : Pos} {lv n n1 n2 n3 : Nat} {lp fl2 : List Nat} {st : Stmt} {sts sts2 : List Stmt} {sm sm1 sm2 : SM}
theorem tyL {K : PySem.W.Frag} {H : Hp} {a : Addr} {xs : List V} (h : H a = some (.lst xs)) : tyV K "list" (.ref a) H := .inl ⟨rfl, xs, .inl (.inl h)⟩
/-- x.append(e) -/
def mApp (i : Nat) (m : EM) : SM := fun ρ t => match ρ[i]? with
  | some (some (.lst l)) => (m ρ t).bind fun p => if small l then some (.nx (ρ.set i (some (.lst (l ++ [p.1])))) p.2) else none
  | _ => none
theorem fs_append (i : Nat) {x : Str} {xp apos cpos : Pos} (hf : fl[i]? = some (n + 1)) (he : FE X tp B fl e (.o n) me) (hN : X.N[i]? = some x := by rfl) (hv : Vis X.env.scope x := by first | exact Or.inl rfl | exact Or.inr (Or.inl rfl) | exact Or.inr (Or.inr rfl)) (hd : (x == ("__debug__" : Str)) = false := by decide)
    (hcd : (x == ("__classdict__" : Str)) = false := by decide) (hbase : attributeBase (.Name x xp) "append" X.env (eval (.Name x xp) X.env) = eval (.Name x xp) X.env := by rfl)
    (hfew : ((backTo cpos (starEach (e :: []) X.env)).all (fun x => !x.1) && (backToKw cpos (keywordEach [] X.env)).all (fun x => x.1.isSome) && decide ((e :: ([] : List Expr)).length + ([] : List Keyword).length + (if ([] : List Keyword).isEmpty then 0 else 1) < 30)) = true := by rfl)
    (hline : (apos.endLine == cpos.line) = true := by rfl) (hs : starEach (e :: []) X.env = (false, eval e X.env) :: starEach [] X.env := by rfl) (hplain : (backTo cpos (starEach [] X.env)).any (·.1) = false := by rfl)
    (hsw : swapsWith (.Call (.Attribute (.Name x xp) "append" apos) [e] [] cpos) none pos.line X.env = pure false := by rfl) :
    FS X tp B lv lp fl fl (.Expr (.Call (.Attribute (.Name x xp) "append" apos) [e] [] cpos) pos) (mApp i me) :=
  PS.imp (ps_expr (pe_bm PySem.F.plainAttrs_list PySem.F.slot_list_append PySem.F.type_list_append mt_append (pe_var hN hv hd hcd) (pa_cons he pa_nil hs) hbase hfew hline hs hplain) hsw) fun D σ H ⟨Fs, ρ, t, o, R, hm, q⟩ => by
    unfold mApp at hm
    split at hm
    case h_2 => cases hm
    rename_i l hl
    obtain ⟨⟨d, t1⟩, h1, h2⟩ := bind_some hm
    simp only at h2
    split at h2
    case isFalse => cases h2
    rename_i hsm
    cases h2
    have hi : i < Fs.s.length := by rw [R.l3, ← R.l2]; exact (List.getElem?_eq_some_iff.mp hl).1
    obtain ⟨v, ev, ow⟩ := R.slot i (n + 1) _ _ hf hl (List.getElem?_eq_getElem hi)
    obtain ⟨p, xs, ds, Gs, rfl, e2, hp, l1, l2, eF, its⟩ := id ow
    cases e2
    have hpo : p ∈ Fs.s[i] := by rw [eF]; exact List.mem_cons_self
    have hpS : p ∈ Fs.s.flatten := List.mem_flatten.mpr ⟨_, List.getElem_mem hi, hpo⟩
    have hpt : p ∉ tpl tp := fun z => (List.nodup_append.mp R.nd).2.2 p (List.mem_append_right _ hpS) p z rfl
    refine ⟨.ref p, ev, tyL hp, Fs, ρ, t, d, t1, R, h1, fun v1 H1 r1 => ?_⟩
    obtain ⟨F, nd, hF, ow1⟩ := r1.val
    have hp1 : H1 p = some (.lst xs) := r1.same _ _ hp hpt
    refine ⟨p, xs, v1, rfl, rfl, hp1, ?_, ?_⟩
    · rw [l1]; exact Nat.lt_of_le_of_lt (of_sml hsm) (by decide)
    · have ex := R.ext r1.same r1.tape nd hF ow1.lists
      have eo : ours tp ⟨F ++ Fs.e, Fs.s⟩ = F ++ ours tp Fs := ours_ext F Fs
      have ex2 : RelF X.K tp B fl ⟨F ++ Fs.e, Fs.s⟩ H1 σ ρ t1 := ex
      have hpF : p ∉ F := fun z => by rw [hF p z] at hp; cases hp
      have hGn : (p :: Gs.flatten).Nodup := by
        rw [← eF]
        exact ((List.nodup_append.mp (List.nodup_append.mp R.nd).1).2.1).sublist (List.sublist_flatten_of_mem (List.getElem_mem hi))
      have hGl : ∀ b ∈ Gs.flatten, ∃ xs, H b = some (.lst xs) := fun b hb => ow.lists b (by rw [eF]; exact List.mem_cons_of_mem _ hb)
      have hGt : ∀ b ∈ Gs.flatten, b ∉ tpl tp := fun b hb z => (List.nodup_append.mp R.nd).2.2 b (List.mem_append_right _ (List.mem_flatten.mpr ⟨_, List.getElem_mem hi, by rw [eF]; exact List.mem_cons_of_mem _ hb⟩)) b z rfl
      have flat : (Gs ++ [F]).flatten = Gs.flatten ++ F := by simp
      refine q _ _ _ (RelF.mut (F := F) (E := Fs.e) (S := Fs.s) ex2 i (n := n) (G := Fs.s[i]) (G' := p :: (Gs ++ [F]).flatten) (a := p) hf (List.getElem?_eq_getElem hi) hpo (fun b hb => ?_) ?_ ev ⟨p, xs ++ [v1], l ++ [d], Gs ++ [F], rfl, rfl, upd_same, by simp [l1], by simp [l2], rfl, fun j v' d' Gj h1 h2 h3 => ?_⟩)
      · rw [flat] at hb
        rcases List.mem_cons.mp hb with z | z
        · exact .inl (by rw [eF, z]; exact List.mem_cons_self)
        · rcases List.mem_append.mp z with z | z
          · exact .inl (by rw [eF]; exact List.mem_cons_of_mem _ z)
          · exact .inr z
      · rw [flat, ← List.cons_append]
        refine List.nodup_append.mpr ⟨hGn, nd, fun b hb c hc e => ?_⟩
        subst e
        rcases List.mem_cons.mp hb with z | z
        · exact hpF (by rw [← z]; exact hc)
        · obtain ⟨ys, e⟩ := hGl b z
          rw [hF b hc] at e; cases e
      · rw [eo]
        by_cases hj : j < xs.length
        · rw [List.getElem?_append_left hj] at h1
          rw [List.getElem?_append_left (by omega)] at h2
          rw [List.getElem?_append_left (by omega)] at h3
          have hb : ∀ b ∈ Gj, b ∈ Gs.flatten := fun b hb => List.mem_flatten.mpr ⟨Gj, List.mem_of_getElem? h3, hb⟩
          refine (its j v' d' Gj h1 h2 h3).mono (fun b u q => ?_) fun b u hb' hu => ?_
          · obtain ⟨q1, q2⟩ := hid_some q
            refine hid_of (fun z => ?_) (r1.same b u q2 fun z => q1 (RelF.tsub b z))
            rcases List.mem_append.mp z with z | z
            · rw [hF b z] at q2; cases q2
            · exact q1 z
          · rw [upd_ne fun z => ?_]
            · exact r1.same b u hu (hGt b (hb b hb'))
            · exact (List.nodup_cons.mp hGn).1 (by rw [← z]; exact hb b hb')
        · have hj2 : j = xs.length := by
            have := (List.getElem?_eq_some_iff.mp h1).1
            simp at this; omega
          subst hj2
          rw [List.getElem?_append_right (Nat.le_refl _), Nat.sub_self] at h1
          rw [l1, List.getElem?_append_right (Nat.le_refl _), Nat.sub_self] at h2
          rw [l1, ← l2, List.getElem?_append_right (Nat.le_refl _), Nat.sub_self] at h3
          cases h1; cases h2; cases h3
          refine ow1.mono (Same.refl _) fun b u hb hu => ?_
          rw [upd_ne fun z => hpF (by rw [← z]; exact hb)]
          exact hu
/-- x[i] = e -/
def mSetI (i : Nat) (mx me : EM) : SM := fun ρ t => (me ρ t).bind fun p => (mx ρ p.2).bind fun q => match ρ[i]?, q.1 with
  | some (some (.lst l)), .int j => (ixN l.length j).map fun z => .nx (ρ.set i (some (.lst (l.set z p.1)))) q.2
  | _, _ => none
theorem fs_setI (i : Nat) {x : Str} {xp sp : Pos} (hf : fl[i]? = some (n + 1)) (he : FE X tp B fl e (.o n) me) (hx : FE X tp B fl e1 k ma) (hN : X.N[i]? = some x := by rfl) (hv : Vis X.env.scope x := by first | exact Or.inl rfl | exact Or.inr (Or.inl rfl) | exact Or.inr (Or.inr rfl)) (hd : (x == ("__debug__" : Str)) = false := by decide)
    (hcd : (x == ("__classdict__" : Str)) = false := by decide)
    (ha : ∀ v, assign (.Subscript (.Name x xp) e1 sp) X.env v = (do
      let ov ← holding [v] (eval (.Name x xp) X.env); let iv ← holding [v, ov] (eval e1 X.env)
      standAt sp; holding [v, ov, iv] (setItem ov iv v); release [v, ov, iv] []) := by intro _; rfl)
    (hs : swapsWithSole [.Subscript (.Name x xp) e1 sp] e pos.line X.env = pure false := by rfl) (hw : swappedStores [.Subscript (.Name x xp) e1 sp] e X.env = pure none := by rfl)
    (h1 : (assignEach [.Subscript (.Name x xp) e1 sp] X.env).map (·.2) = [assign (.Subscript (.Name x xp) e1 sp) X.env] := by rfl) :
    FS X tp B lv lp fl fl (.Assign [.Subscript (.Name x xp) e1 sp] e pos) (mSetI i ma me) :=
  PS.imp (ps_asg he (pg_sub (pe_var hN hv hd hcd) hx set_list ha) hs hw h1) fun D σ H ⟨Fs, ρ, t, o, R, hm, q⟩ => by
    obtain ⟨⟨d, t1⟩, h1, h2⟩ := bind_some hm
    obtain ⟨⟨dj, t2⟩, h3, h4⟩ := bind_some h2
    simp only at h3 h4
    split at h4
    case h_2 => cases h4
    rename_i l j hl
    cases ez : ixN l.length j with
    | none => rw [ez] at h4; cases h4
    | some z =>
      rw [ez] at h4
      cases h4
      have hzl : z < l.length := (ixN_seq ez).2.1
      have hi : i < Fs.s.length := by rw [R.l3, ← R.l2]; exact (List.getElem?_eq_some_iff.mp hl).1
      obtain ⟨v, ev, ow⟩ := R.slot i (n + 1) _ _ hf hl (List.getElem?_eq_getElem hi)
      obtain ⟨p, xs, ds, Gs, rfl, e2, hp, l1, l2, eF, its⟩ := id ow
      cases e2
      have hpo : p ∈ Fs.s[i] := by rw [eF]; exact List.mem_cons_self
      have hpS : p ∈ Fs.s.flatten := List.mem_flatten.mpr ⟨_, List.getElem_mem hi, hpo⟩
      have hpt : p ∉ tpl tp := fun z => (List.nodup_append.mp R.nd).2.2 p (List.mem_append_right _ hpS) p z rfl
      refine ⟨Fs, ρ, t, d, t1, R, h1, fun v1 H1 r1 => ⟨.ref p, ev, Fs, ρ, t1, _, t2, R.step r1.same r1.tape, h3, fun v2 H2 r2 => ?_⟩⟩
      have R1 := R.step r1.same r1.tape
      obtain ⟨F, nd, hF, ow1⟩ := r1.val
      have s12 := r1.same.trans r2.same
      have hp2 : H2 p = some (.lst xs) := s12 _ _ hp hpt
      refine ⟨p, xs, j, z, rfl, (r2.inn R1.ok).all.int_inv, hp2, by rw [l1]; exact ez, ?_⟩
      have Ft : ∀ b ∈ F, b ∉ tpl tp := fun b hb z => by
        obtain ⟨ys, e⟩ := R.tape.lists b z
        rw [hF b hb] at e; cases e
      have ow2 : OwnN X.K tp n (hid (F ++ ours tp Fs) H2) H2 v1 d F := ow1.mono (fun b u q => by
        obtain ⟨q1, q2⟩ := hid_some q
        exact hid_of q1 (r2.same b u q2 fun z => q1 (List.mem_append_right _ (RelF.tsub b z)))) fun b u hb hu => r2.same b u hu (Ft b hb)
      have ex := R.ext s12 r2.tape nd hF ow2.lists
      have eo : ours tp ⟨F ++ Fs.e, Fs.s⟩ = F ++ ours tp Fs := ours_ext F Fs
      have hpF : p ∉ F := fun z => by rw [hF p z] at hp; cases hp
      have hGn : (p :: Gs.flatten).Nodup := by
        rw [← eF]
        exact ((List.nodup_append.mp (List.nodup_append.mp R.nd).1).2.1).sublist (List.sublist_flatten_of_mem (List.getElem_mem hi))
      have hGl : ∀ b ∈ Gs.flatten, ∃ xs, H b = some (.lst xs) := fun b hb => ow.lists b (by rw [eF]; exact List.mem_cons_of_mem _ hb)
      have hGt : ∀ b ∈ Gs.flatten, b ∉ tpl tp := fun b hb z => (List.nodup_append.mp R.nd).2.2 b (List.mem_append_right _ (List.mem_flatten.mpr ⟨_, List.getElem_mem hi, by rw [eF]; exact List.mem_cons_of_mem _ hb⟩)) b z rfl
      refine q _ _ _ (RelF.mut (F := F) (E := Fs.e) (S := Fs.s) ex i (n := n) (G := Fs.s[i]) (G' := p :: (Gs.set z F).flatten) (a := p) hf (List.getElem?_eq_getElem hi) hpo (fun b hb => ?_) ?_ ev ⟨p, xs.set z v1, l.set z d, Gs.set z F, rfl, rfl, upd_same, by simp [l1], by simp [l2], rfl, fun jj v' d' Gj h1 h2 h3 => ?_⟩)
      · rcases List.mem_cons.mp hb with y | y
        · exact .inl (by rw [eF, y]; exact List.mem_cons_self)
        · rcases mem_flatten_set y with y | y
          · exact .inr y
          · exact .inl (by rw [eF]; exact List.mem_cons_of_mem _ y)
      · refine List.nodup_cons.mpr ⟨fun y => ?_, nodup_set (List.nodup_append.mpr ⟨nd, (List.nodup_cons.mp hGn).2, fun b hb c hc e => ?_⟩)⟩
        · rcases mem_flatten_set y with y | y
          · exact hpF y
          · exact (List.nodup_cons.mp hGn).1 y
        · subst e
          obtain ⟨ys, e⟩ := hGl b hc
          rw [hF b hb] at e; cases e
      · rw [eo]
        by_cases hj : z = jj
        · subst hj
          rw [List.getElem?_set_self (by omega)] at h1
          rw [List.getElem?_set_self hzl] at h2
          rw [List.getElem?_set_self (by omega)] at h3
          cases h1; cases h2; cases h3
          refine ow2.mono (Same.refl _) fun b u hb hu => ?_
          rw [upd_ne fun z => hpF (by rw [← z]; exact hb)]
          exact hu
        · rw [List.getElem?_set_ne hj] at h1 h2 h3
          have hb : ∀ b ∈ Gj, b ∈ Gs.flatten := fun b hb => List.mem_flatten.mpr ⟨Gj, List.mem_of_getElem? h3, hb⟩
          refine (its jj v' d' Gj h1 h2 h3).mono (fun b u q => ?_) fun b u hb' hu => ?_
          · obtain ⟨q1, q2⟩ := hid_some q
            refine hid_of (fun z => ?_) (s12 b u q2 fun z => q1 (RelF.tsub b z))
            rcases List.mem_append.mp z with z | z
            · rw [hF b z] at q2; cases q2
            · exact q1 z
          · rw [upd_ne fun z => ?_]
            · exact s12 b u hu (hGt b (hb b hb'))
            · exact (List.nodup_cons.mp hGn).1 (by rw [← z]; exact hb b hb')
end
end FL
set_option maxRecDepth 100000
set_option maxHeartbeats 2000000
noncomputable section
namespace FL
open PySem PySem.Spec PyProof.Rows L2
section
variable {X : Cx} {tp : TP} {B : Hp} {fl fl' fl1 ws vs : List Nat} {e e1 e2 e3 a b c tg iter elt : Expr} {es rest ifs : List Expr} {k ka kb kc : Kd} {m ma mb mc me : EM} {ba bb : BM} {mr : AM} {mi : IM} {g : GM} {pos : Pos} {lv n n1 n2 n3 : Nat} {lp fl2 : List Nat} {st : Stmt} {sts sts2 : List Stmt} {sm sm1 sm2 : SM}
/-! ### x op= e of ints -/
def mAug (i : Nat) (f : Int → Int → Int) (me : EM) : SM := fun ρ t => match ρ[i]? with
  | some (some (.int a)) => (me ρ t).bind fun p => match p.1 with
    | .int b => some (.nx (ρ.set i (some (.int (f a b)))) p.2)
    | _ => none
  | _ => none
theorem fs_aug (i : Nat) {x : Str} {op : Operator} {f : Int → Int → Int} {pos' : Pos} (hN : X.N.Nodup) (he : FE X tp B fl e k me) (ho : PIp X op (ipI f)) (hi : X.N[i]? = some x := by rfl) (hx : Loc X.env.scope x := by first | exact Or.inl rfl | exact Or.inr rfl)
    (hf : X.fn x = true ∨ X.env.scope.names.lookup x = some .local := by first | exact .inl rfl | exact .inr rfl) (hfl : fl' = fl.set i 0 := by rfl) : FS X tp B lv lp fl fl' (.AugAssign (.Name x pos') op e pos) (mAug i f me) :=
  PS.imp (ps_aug hN hi hx he ho hf) fun D σ H ⟨Fs, ρ, t, o, R, hm, q⟩ => by
    unfold mAug at hm
    split at hm
    case h_2 => cases hm
    rename_i a hl
    obtain ⟨⟨d, t1⟩, h1, h2⟩ := bind_some hm
    simp only at h2
    split at h2
    case h_2 => cases h2
    rename_i b
    cases h2
    have hi' : i < Fs.s.length := by rw [R.l3, ← R.l2]; exact (List.getElem?_eq_some_iff.mp hl).1
    have hf' : i < fl.length := by rw [R.l1, ← R.l2]; exact (List.getElem?_eq_some_iff.mp hl).1
    obtain ⟨v, ev, ow⟩ := R.slot i _ _ _ (List.getElem?_eq_getElem hf') hl (List.getElem?_eq_getElem hi')
    have evi : v = .int a := (ow.rp hid_sub).int_inv
    subst evi hfl
    refine ⟨.int a, ev, Fs, ρ, t, _, _, R, h1, fun v1 H1 r1 => ⟨a, b, rfl, (r1.inn R.ok).all.int_inv, ?_⟩⟩
    exact q _ _ _ ((R.step r1.same r1.tape).store0 i (.int _))
/-! ### a, b = e1, e2 with plain names -/
def mPar2 (i j : Nat) (ma mb : EM) : SM := fun ρ t => (ma ρ t).bind fun p => (mb ρ p.2).map fun q => .nx ((ρ.set i (some p.1)).set j (some q.1)) q.2
/-- two values of ours, made one after another, are stored -/
theorem RelF.store2 {K : PySem.W.Frag} {Fs : Ow} {H H1 H2 : Hp} {σ : L2.St} {ρ : Env} {t t1 t2 : Tape} (R : RelF K tp B fl Fs H σ ρ t) {v w : V} {d1 d2 : D} {F G : List Addr} (s1 : SameX tp H H1) (ta1 : TapeAt tp H1 t1) (nd : F.Nodup) (hF : ∀ a ∈ F, H a = none) (ow : OwnN K tp n1 (hid (F ++ ours tp Fs) H1) H1 v d1 F)
    (s2 : SameX tp H1 H2) (ta2 : TapeAt tp H2 t2) (ndG : G.Nodup) (hG : ∀ a ∈ G, H1 a = none) (owG : OwnN K tp n2 (hid (G ++ ours tp ⟨F ++ Fs.e, Fs.s⟩) H2) H2 w d2 G) (i j : Nat) (hij : i ≠ j) :
    RelF K tp B ((fl.set i n1).set j n2) ⟨Fs.e, (Fs.s.set j G).set i F⟩ H2 ((σ.set i (some v)).set j (some w)) ((ρ.set i (some d1)).set j (some d2)) t2 := by
  have Ft : ∀ b ∈ F, b ∉ tpl tp := fun b hb z => by
    obtain ⟨ys, e⟩ := R.tape.lists b z
    rw [hF b hb] at e; cases e
  have ex1 := R.ext s1 ta1 nd hF ow.lists
  have eo1 : ours tp ⟨F ++ Fs.e, Fs.s⟩ = F ++ ours tp Fs := ours_ext F Fs
  have ex2 := ex1.ext s2 ta2 ndG hG owG.lists
  have eo2 : ours tp ⟨G ++ (F ++ Fs.e), Fs.s⟩ = G ++ ours tp ⟨F ++ Fs.e, Fs.s⟩ := ours_ext G ⟨F ++ Fs.e, Fs.s⟩
  have st1 := RelF.store (F := G) (E := F ++ Fs.e) (S := Fs.s) ex2 j (by rw [eo2]; exact owG)
  have ow' : OwnN K tp n1 (hid (ours tp ⟨F ++ Fs.e, Fs.s.set j G⟩) H2) H2 v d1 F := by
    refine ow.mono (fun b u q => ?_) fun b u hb hu => s2 b u hu (Ft b hb)
    obtain ⟨q1, q2⟩ := hid_some q
    refine hid_of (fun z => ?_) (s2 b u q2 fun z => q1 (List.mem_append_right _ (RelF.tsub b z)))
    rcases List.mem_append.mp z with z | z
    · rcases List.mem_append.mp z with z | z
      · rcases List.mem_append.mp z with z | z
        · exact q1 (List.mem_append_left _ z)
        · exact q1 (List.mem_append_right _ (List.mem_append_left _ (List.mem_append_left _ z)))
      · rcases mem_flatten_set z with z | z
        · rw [hG b z] at q2; cases q2
        · exact q1 (List.mem_append_right _ (List.mem_append_left _ (List.mem_append_right _ z)))
    · exact q1 (List.mem_append_right _ (RelF.tsub b z))
  have st2 := RelF.store (F := F) (E := Fs.e) (S := Fs.s.set j G) st1 i ow'
  rw [List.set_comm _ _ hij, List.set_comm _ _ hij, List.set_comm _ _ hij]
  exact st2
theorem fs_par2 (i j : Nat) {x y : Str} {px py pt : Pos} {kt k2 pt2} (hc : X.calm = true) (hN : X.N.Nodup) (ha : FE X tp B fl e1 (.o n1) ma) (hb : FE X tp B fl e2 (.o n2) mb) (hw : swappedStores [.Tuple [.Name x px, .Name y py] kt pt] (.Tuple [e1, e2] k2 pt2) X.env = pure (some [x, y])) (hij : i ≠ j := by decide) (hi : X.N[i]? = some x := by rfl) (hj : X.N[j]? = some y := by rfl)
    (hx : X.env.scope.names.lookup x = some .local := by rfl) (hy : X.env.scope.names.lookup y = some .local := by rfl)
    (h1 : starEach (e1 :: [e2]) X.env = (false, eval e1 X.env) :: starEach [e2] X.env := by rfl) (h2 : starEach (e2 :: []) X.env = (false, eval e2 X.env) :: starEach [] X.env := by rfl)
    (hs : swapsWithSole [.Tuple [.Name x px, .Name y py] kt pt] (.Tuple [e1, e2] k2 pt2) pos.line X.env = pure false := by rfl) (hfl : fl' = (fl.set i n1).set j n2 := by rfl) :
    FS X tp B lv lp fl fl' (.Assign [.Tuple [.Name x px, .Name y py] kt pt] (.Tuple [e1, e2] k2 pt2) pos) (mPar2 i j ma mb) :=
  PS.imp (ps_par hc hN hi hj hij hx hy (pa_cons ha (pa_cons hb pa_nil h2) h1) hw hs) fun D σ H ⟨Fs, ρ, t, o, R, hm, q⟩ => by
    obtain ⟨⟨d1, t1⟩, h1, h2⟩ := bind_some hm
    simp only at h2
    cases h3 : mb ρ t1 with
    | none => rw [h3] at h2; cases h2
    | some p =>
      obtain ⟨d2, t2⟩ := p
      rw [h3] at h2
      cases h2
      subst hfl
      refine ⟨Fs, ρ, t, d1, t1, R, h1, fun v1 H1 r1 => ?_⟩
      obtain ⟨F, nd, hF, ow⟩ := r1.val
      refine ⟨⟨F ++ Fs.e, Fs.s⟩, ρ, t1, d2, t2, R.ext r1.same r1.tape nd hF ow.lists, h3, fun v2 H2 r2 => ?_⟩
      obtain ⟨G, ndG, hG, owG⟩ := r2.val
      exact ⟨v1, v2, rfl, q _ _ _ (R.store2 r1.same r1.tape nd hF ow r2.same r2.tape ndG hG owG i j hij)⟩
/-! three names, frozen values -/
def mPar3 (i j l : Nat) (ma mb mc : EM) : SM := fun ρ t => (ma ρ t).bind fun p => (mb ρ p.2).bind fun q => (mc ρ q.2).map fun r => .nx (((ρ.set i (some p.1)).set j (some q.1)).set l (some r.1)) r.2
theorem fs_par3 (i j l : Nat) {x y z : Str} {px py pz pt : Pos} {kt k2 pt2} (hc : X.calm = true) (hN : X.N.Nodup) (ha : FE X tp B fl e1 (.o 0) ma) (hb : FE X tp B fl e2 (.o 0) mb) (hcc : FE X tp B fl e3 (.o 0) mc)
    (hw : swappedStores [.Tuple [.Name x px, .Name y py, .Name z pz] kt pt] (.Tuple [e1, e2, e3] k2 pt2) X.env = pure (some [x, y, z])) (hij : i ≠ j := by decide) (hil : i ≠ l := by decide) (hjl : j ≠ l := by decide) (hi : X.N[i]? = some x := by rfl) (hj : X.N[j]? = some y := by rfl) (hl : X.N[l]? = some z := by rfl)
    (hx : X.env.scope.names.lookup x = some .local := by rfl) (hy : X.env.scope.names.lookup y = some .local := by rfl) (hz : X.env.scope.names.lookup z = some .local := by rfl)
    (h1 : starEach (e1 :: [e2, e3]) X.env = (false, eval e1 X.env) :: starEach [e2, e3] X.env := by rfl) (h2 : starEach (e2 :: [e3]) X.env = (false, eval e2 X.env) :: starEach [e3] X.env := by rfl) (h3 : starEach (e3 :: []) X.env = (false, eval e3 X.env) :: starEach [] X.env := by rfl)
    (hs : swapsWithSole [.Tuple [.Name x px, .Name y py, .Name z pz] kt pt] (.Tuple [e1, e2, e3] k2 pt2) pos.line X.env = pure false := by rfl) (hfl : fl' = ((fl.set i 0).set j 0).set l 0 := by rfl) :
    FS X tp B lv lp fl fl' (.Assign [.Tuple [.Name x px, .Name y py, .Name z pz] kt pt] (.Tuple [e1, e2, e3] k2 pt2) pos) (mPar3 i j l ma mb mc) :=
  PS.imp (ps_par3 hc hN hi hj hl hij hil hjl hx hy hz (pa_cons ha (pa_cons hb (pa_cons hcc pa_nil h3) h2) h1) hw hs) fun D σ H ⟨Fs, ρ, t, o, R, hm, q⟩ => by
    obtain ⟨⟨d1, t1⟩, h1, h2⟩ := bind_some hm
    obtain ⟨⟨d2, t2⟩, h3, h4⟩ := bind_some h2
    simp only at h3 h4
    cases h5 : mc ρ t2 with
    | none => rw [h5] at h4; cases h4
    | some p =>
      obtain ⟨d3, t3⟩ := p
      rw [h5] at h4
      cases h4
      subst hfl
      refine ⟨Fs, ρ, t, d1, t1, R, h1, fun v1 H1 r1 => ?_⟩
      have R1 := R.step r1.same r1.tape
      refine ⟨Fs, ρ, t1, d2, t2, R1, h3, fun v2 H2 r2 => ?_⟩
      have R2 := R1.step r2.same r2.tape
      refine ⟨Fs, ρ, t2, d3, t3, R2, h5, fun v3 H3 r3 => ?_⟩
      have R3 := R2.step r3.same r3.tape
      have i1 : Rp X.K tp (hid (ours tp Fs) H3) v1 d1 := ((r1.frz R.ok).mono (hid_step R1.ok r2.same)).mono (hid_step R2.ok r3.same)
      have i2 : Rp X.K tp (hid (ours tp Fs) H3) v2 d2 := (r2.frz R1.ok).mono (hid_step R2.ok r3.same)
      have i3 := r3.frz R2.ok
      have s1 := R3.store0 i i1
      have s2 := s1.store0 j (i2.mono (hid_same_of fun a ha => ours_set0 ha))
      have s3 := s2.store0 l (i3.mono (hid_same_of fun a ha => ours_set0 (Fs := Fs) (ours_set0 (Fs := ⟨Fs.e, Fs.s.set i []⟩) ha)))
      exact ⟨v1, v2, v3, rfl, q _ _ _ s3⟩
/-! ### defs of the text -/
abbrev FM := List D → Tape → Option (D × Tape)
/-- what a def hands back, from H on -/
structure Ret (K : PySem.W.Frag) (tp : TP) (H : Hp) (lv : Nat) (d : D) (t' : Tape) (v : V) (H' : Hp) : Prop where
  same : SameX tp H H'
  tape : TapeAt tp H' t'
  val : ∃ F : List Addr, F.Nodup ∧ (∀ a ∈ F, H a = none) ∧ OwnN K tp lv (hid (F ++ tpl tp) H') H' v d F
/-- a def's promise: f of the data, and the tape turned -/
def spD (K : PySem.W.Frag) (n lv : Nat) (f : FM) : Sp := fun vs H Q _ => ∃ tp t ds d t', TapeAt tp H t ∧ ds.length = n ∧ RpL K tp (hid (tpl tp) H) vs ds ∧ f ds t = some (d, t') ∧ ∀ v H', Ret K tp H lv d t' v H' → Q v H'
/-- plain to the level -/
def plnL : Nat → D → Bool
  | 0, d => pln dep d
  | n + 1, .lst l => l.all (plnL n)
  | _ + 1, _ => false
theorem OwnN.pln {K : PySem.W.Frag} {H Hf Hg : Hp} : ∀ (n : Nat) {v : V} {d : D} {F : List Addr} {O : List Addr}, plnL n d = true → OwnN K tp n Hf H v d F → Same Hf H → (∀ a ∈ O, ∃ xs, H a = some (.lst xs)) → OwnN K tp n (hid O H) H v d F
  | 0, v, d, F, O, hp, h, s, hO => ⟨Rp.noL (pln_noL dep d hp) (h.1.mono s) hO, h.2⟩
  | n + 1, v, d, F, O, hp, h, s, hO => by
    obtain ⟨a, xs, ds, Fs, e1, e2, ha, l1, l2, eF, r⟩ := h
    subst e2
    exact ⟨a, xs, ds, Fs, e1, rfl, ha, l1, l2, eF, fun i v d Fi h1 h2 h3 => OwnN.pln (Hg := Hg) n (List.all_eq_true.mp (show ds.all (plnL n) = true from hp) d (List.mem_of_getElem? h2)) (r i v d Fi h1 h2 h3) s hO⟩
def mCall (n lv : Nat) (f : FM) (ma : AM) : EM := fun ρ t => (ma ρ t).bind fun p => if p.1.length = n then (f p.1 p.2).bind fun q => if plnL lv q.1 then some q else none else none
theorem mCall_some {f : FM} {ma : AM} {ρ : Env} {t t' : Tape} {d : D} (h : mCall n lv f ma ρ t = some (d, t')) : ∃ ds t1, ma ρ t = some (ds, t1) ∧ ds.length = n ∧ f ds t1 = some (d, t') ∧ plnL lv d = true := by
  obtain ⟨⟨ds, t1⟩, h1, h2⟩ := bind_some h
  simp only at h2
  split at h2
  case isFalse => cases h2
  rename_i hl
  obtain ⟨⟨d', t2⟩, h3, h4⟩ := bind_some h2
  simp only at h4
  split at h4
  case isFalse => cases h4
  rename_i hp
  cases h4
  exact ⟨ds, t1, h1, hl, h3, hp⟩
theorem ret_res {K : PySem.W.Frag} {Fs : Ow} {H H' : Hp} {σ : L2.St} {ρ : Env} {t t' : Tape} {d : D} {v : V} (R : RelF K tp B fl Fs H σ ρ t) (hp : plnL lv d = true) (r : Ret K tp H lv d t' v H') : Res K tp (ours tp Fs) H (.o lv) d t' v H' := by
  obtain ⟨F, nd, hF, ow⟩ := r.val
  refine ⟨r.same, r.tape, F, nd, hF, OwnN.pln (Hg := H) lv hp ow hid_sub fun a ha => ?_⟩
  rcases List.mem_append.mp ha with z | z
  · exact ow.lists a z
  · exact (R.ok.step r.same r.tape).ls a z
theorem fe_call {CX : CXT} {j : Nat} {f : Addr} {fd : FuncData} {ps : List Str} {x : Str} {p : Pos} {E : XK} {fm : FM} (F : FnOk X.prog X.w X.K X.mg X.base CX j f fd ps (spD X.K n lv fm)) (hr : Room j X.A) (hg : Gl X x) (hm : X.mg x = some (.ref f)) (hk : PySem.W.keepIn X.K (.ref f) = true) (hb : Binds X.K fd ps []) (hx : Passes CX X E)
    (ha : FA X tp B fl (e :: es) .b mr) (hdb : (x == ("__debug__" : Str)) = false := by decide) (he : starEach (e :: es) X.env = (false, eval e X.env) :: starEach es X.env := by rfl) (hpl : (backTo pos (starEach es X.env)).any (·.1) = false := by rfl) :
    FE X tp B fl (.Call (.Name x p) (e :: es) [] pos) (.o lv) (mCall n lv fm mr) :=
  PE.imp (pe_call F hr hg hm hk hb .nil hx ha hdb he hpl) fun σ H Q ⟨Fs, ρ, t, d, t', R, hm', q⟩ => by
    obtain ⟨ds, t1, h1, hl, h2, hp⟩ := mCall_some hm'
    refine ⟨Fs, ρ, t, ds, t1, R, h1, fun vs H1 r1 => ?_⟩
    have R1 := R.step r1.same r1.tape
    refine ⟨tp, t1, ds, d, t', r1.tape, hl, ?_, h2, fun v H' r => q v H' (.trans r1.same r1.tape (ret_res R1 hp r))⟩
    rw [List.append_nil]
    exact r1.rplB
/-- a weaker function -/
theorem FnOk.fm {P : Program} {w : World} {K : PySem.W.Frag} {mg : Str → Option Value} {base : Heap} {CX : CXT} {j : Nat} {f : Addr} {fd : FuncData} {ps : List Str} {fm gm : FM} (F : FnOk P w K mg base CX j f fd ps (spD K n lv fm)) (h : ∀ ds t r, gm ds t = some r → fm ds t = some r) : FnOk P w K mg base CX j f fd ps (spD K n lv gm) :=
  F.imp fun vs H Q E ⟨tp, t, ds, d, t', h1, h2, h3, h4, h5⟩ => ⟨tp, t, ds, d, t', h1, h2, h3, h _ _ _ h4, h5⟩
/-- a def by its body: N names, the parameters first -/
def fnM (N lv : Nat) (m : SM) : FM := fun ds t => (m (ds.map some ++ List.replicate (N - ds.length) none) t).bind fun o => match o with
  | .rt d t' => some (d, t')
  | .nx _ t' => if lv = 0 then some (.non, t') else none
  | _ => none
theorem fn_ok {P : Program} {w : World} {K : PySem.W.Frag} {mg : Str → Option Value} {base : Heap} {x qual : Str} {st : Stmt} {f : Addr} {fd : FuncData} {N ps : List Str} {j lv : Nat} {sm : SM} {fl0 : List Nat} (F : Fun K x qual st f fd) (S : FnScope N ps (defScope st))
    (h : ∀ (cdv : Value) (A : Around) (outer : List PySem.Env) (s : Shared) (H : Hp) (E : XK) (tp : TP) (B : Hp), Room j (A.deeper (envOfC qual (defScope st) s.heap.objs.size f cdv)) →
      ∃ fl', FSs (cxOf CX0 P w K mg base N qual (defScope st) f cdv A outer s H E).nox tp B lv [] fl0 fl' (defBody st) sm) (hfl0 : fl0 = List.replicate N.length 0 := by rfl) :
    FnOk P w K mg base CX0 (j + 1) f fd ps (spD K ps.length lv (fnM N.length lv sm)) := by
  subst hfl0
  refine F.ok S (fun vs H Q E ⟨tp, t, ds, d, t', h1, h2, h3, h4, h5⟩ => by rw [h3.1, h2]) fun cdv A outer s H vs Q E hr ⟨tp, t, ds, d, t', h1, h2, h3, h4, h5⟩ => ?_
  obtain ⟨fl', hh⟩ := h cdv A outer s H E tp (hid (tpl tp) H) hr
  obtain ⟨o, e1, e2⟩ := bind_some h4
  have hps : ps.length ≤ N.length := by
    have := congrArg List.length S.pre
    rw [List.length_take] at this; omega
  have hvl : vs.length = ds.length := h3.1
  have e0 : ours tp ⟨[], List.replicate N.length []⟩ = tpl tp := by
    unfold ours
    have : (List.replicate N.length ([] : List Addr)).flatten = [] := by simp
    rw [this]; rfl
  have R0 : RelF K tp (hid (tpl tp) H) (List.replicate N.length 0) ⟨[], List.replicate N.length []⟩ H (L2.start N vs) (ds.map some ++ List.replicate (N.length - ds.length) none) t := by
    have sl : (L2.start N vs).length = N.length := by unfold L2.start; simp; omega
    refine ⟨by simp [sl], by simp [sl]; omega, by simp [sl], ?_, h1, by rw [e0]; exact Same.refl _, fun a ha => ?_, fun i F _ h3 => ?_, fun i n' d' F hf hd hF => ?_⟩
    · rw [e0]
      cases tp with
      | none => exact .nil
      | some p =>
        obtain ⟨p, c⟩ := p
        have := (h1 p c rfl).1
        simp [tpl, this]
    · have : (List.replicate N.length ([] : List Addr)).flatten = [] := by simp
      rw [List.nil_append, this] at ha; cases ha
    · have h3' : (List.replicate N.length ([] : List Addr))[i]? = some F := h3
      rw [List.getElem?_replicate] at h3'
      split at h3'
      · cases h3'; rfl
      · cases h3'
    · rw [List.getElem?_replicate] at hf
      have hF' : (List.replicate N.length ([] : List Addr))[i]? = some F := hF
      rw [List.getElem?_replicate] at hF'
      have hlt : i < N.length := by
        by_cases z : i < N.length
        · exact z
        · rw [if_neg z] at hf; cases hf
      rw [if_pos hlt] at hf hF'
      cases hf
      cases hF'
      have hi : i < ds.length := by
        by_cases z : i < ds.length
        · exact z
        · rw [List.getElem?_append_right (by simpa using z), List.getElem?_replicate] at hd
          split at hd <;> cases hd
      rw [List.getElem?_append_left (by simpa using hi), List.getElem?_map] at hd
      have hdi : ds[i]? = some d' := by
        cases e : ds[i]? with
        | none => rw [e] at hd; cases hd
        | some z => rw [e] at hd; cases hd; rfl
      obtain ⟨v, ev, rv⟩ := h3.get hdi
      refine ⟨v, ?_, ?_, rfl⟩
      · unfold L2.start
        rw [List.getElem?_append_left (by simp; omega), List.getElem?_map, ev]; rfl
      · rw [e0]; exact rv
  refine ⟨_, hh, ?_⟩
  refine ⟨⟨[], List.replicate N.length []⟩, _, t, o, R0, e1, ?_⟩
  have fin : ∀ {v : V} {H' : Hp} {d : D} {t' : Tape}, RetB K tp (hid (tpl tp) H) lv d t' v H' → Ret K tp H lv d t' v H' := fun {v H' d t'} r => by
    refine ⟨fun b u q nb => (hid_some (r.base b u (hid_of nb q))).2, r.tape, ?_⟩
    obtain ⟨F, nd, hF, ow⟩ := r.val
    refine ⟨F, nd, fun a ha => ?_, ow⟩
    obtain ⟨q1, q2⟩ := hF a ha
    cases e : H a with
    | none => rfl
    | some u => rw [hid_of q2 e] at q1; cases q1
  cases o with
  | rt d1 t1 => cases e2; exact fun v H' r => h5 v H' (fin r)
  | nx ρ1 t1 =>
    simp only at e2
    split at e2
    case isFalse => cases e2
    rename_i hl0
    subst hl0
    cases e2
    exact fun σ' H' Fs' r => h5 .non H' (fin ⟨r.tape, base_in r .refl, [], .nil, (fun a ha => nomatch ha), Rp.non, rfl⟩)
  | bk ρ1 t1 => cases e2
  | ct ρ1 t1 => cases e2
end
end FL
set_option maxRecDepth 100000
set_option maxHeartbeats 4000000
noncomputable section
namespace FL
open PySem PySem.Spec PyProof.Rows L2

/-! ### t * k for any k -/
theorem mulOne (l : Addr) (items : Array Value) (n : Nat) (dd : Option Addr) (sl : Array (Option Value)) (x : Int) (u : Tok) (c0 : (decide (x < -(2 ^ 63)) || decide (x ≥ 2 ^ 63)) = false) (c1 : (items.isEmpty || x == 1) = true) :
    Meets (Builtin.«tuple.__mul__» ⟨[.ref l, .int x u], []⟩) (fun _ R s => s.heap.get? l = some { cls := .type "tuple", dict := dd, data := .seq items n, slots := sl } ∧ R (.ok (.ret (Value.ref l))) { s with heap := s.heap, toks := s.toks }) :=
  .of_wp fun prog w A R s h => by
    obtain ⟨hp, g, d, tk, os⟩ := s
    obtain ⟨hl, h⟩ := h
    have f1 := AutoSeq1.idx_int
    have f2 := AutoSeq1.sub_tuple_tuple
    wp_walk using AutoSeq1.wpAny_loadPart' hl
    repeat (first
      | (refine wpAny_ite_false (decide_eq_false (by rw [c0]; exact Bool.false_ne_true)) ?_; wp_walk using AutoSeq1.wpAny_loadPart' hl)
      | (refine wpAny_ite_true (decide_eq_true c1) ?_; wp_walk using AutoSeq1.wpAny_loadPart' hl))
    exact ⟨_, rfl, h⟩
theorem mulNone (l : Addr) (items : Array Value) (n : Nat) (dd : Option Addr) (sl : Array (Option Value)) (x : Int) (u : Tok) (c0 : (decide (x < -(2 ^ 63)) || decide (x ≥ 2 ^ 63)) = false) (c1 : (items.isEmpty || x == 1) = false) (c2 : (decide (x ≤ 0) || items.isEmpty) = true) :
    Meets (Builtin.«tuple.__mul__» ⟨[.ref l, .int x u], []⟩) (fun _ R s => s.heap.get? l = some { cls := .type "tuple", dict := dd, data := .seq items n, slots := sl } ∧
      R (.ok (.ret (Value.ref s.heap.objs.size))) { s with heap := s.heap.push { cls := Value.type "tuple", data := Data.seq #[] }, toks := s.toks }) :=
  .of_wp fun prog w A R s h => by
    obtain ⟨hp, g, d, tk, os⟩ := s
    obtain ⟨hl, h⟩ := h
    have f1 := AutoSeq1.idx_int
    have f2 := AutoSeq1.sub_tuple_tuple
    wp_walk using AutoSeq1.wpAny_loadPart' hl
    repeat (first
      | (refine wpAny_ite_false (decide_eq_false (by rw [c0]; exact Bool.false_ne_true)) ?_; wp_walk using AutoSeq1.wpAny_loadPart' hl)
      | (refine wpAny_ite_false (decide_eq_false (by rw [c1]; exact Bool.false_ne_true)) ?_; wp_walk using AutoSeq1.wpAny_loadPart' hl)
      | (refine wpAny_ite_true (decide_eq_true c2) ?_; wp_walk using AutoSeq1.wpAny_loadPart' hl))
    exact ⟨_, rfl, h⟩
def rRepLow (K : PySem.W.Frag) : R2 := fun x y H Q => ∃ l k xs, x = .ref l ∧ y = .int k ∧ SqT K H l xs ∧ -1000 ≤ k ∧ k ≤ 1000 ∧ (xs = [] ∨ k = 1 → Q (.ref l) H) ∧ (xs ≠ [] → k ≤ 0 → ∀ p, H p = none → Q (.ref p) (upd H p (.tup []))) ∧ (xs = [] ∨ k ≤ 1)
section
variable {X : Cx}
theorem op_repLow : OpR X (binaryOp .Mult) (rRepLow X.K) := by
  intro pins s σ H x y v u Q I rx ry h
  obtain ⟨l, k, xs, rfl, rfl, hT, h1, h2, q1, q2, q3⟩ := h
  cases rx
  obtain ⟨t, rfl⟩ := ry
  obtain ⟨its, r, ⟨⟨cls, dd, data, sl⟩, ho, hc, n, hd⟩, hs⟩ := I.tuple hT
  simp only at hc hd
  subst hc hd
  have c0 : (decide (k < -(2 ^ 63)) || decide (k ≥ 2 ^ 63)) = false := by
    rw [decide_eq_false (by omega), decide_eq_false (by omega)]; rfl
  have hem : its.toArray.isEmpty = decide (xs = []) := by
    have hl := r.length
    cases its with
    | nil => rw [List.eq_nil_of_length_eq_zero hl]; rfl
    | cons a b =>
      rw [decide_eq_false fun z => by rw [z] at hl; simp at hl]; rfl
  refine wpAny_binaryOp_repeat_ref (T := "tuple") (U := "int") (by decide) ⟨_, ho, rfl⟩ (fun s' => typeIs_int s' k t) noFill_tuple_mul F.fills_int_mul F.slot_int_rmul repeat_tuple F.slot_int_index.lookup
    (call_meets F.slot_int_rmul (typeIs_int s k t) F.entry_int_rmul (F.args_int_rmul_2 _ _) (int_rmul_tuple k t l its.toArray n dd sl) ⟨ho, rfl, ⟨_, ho, rfl⟩, ?_⟩)
  by_cases hc : xs = [] ∨ k = 1
  · have c1 : (its.toArray.isEmpty || k == 1) = true := by
      rw [hem]
      rcases hc with z | z
      · rw [decide_eq_true z]; rfl
      · rw [z]; simp
    exact call_meets F.slot_tuple_mul ⟨_, ho, rfl⟩ F.entry_tuple_mul (F.args_tuple_mul_2 _ _) (mulOne l its.toArray n dd sl k t c0 c1) ⟨ho, ⟨.ref l, H, I, rfl, q1 hc⟩⟩
  · have hx : xs ≠ [] := fun z => hc (.inl z)
    have hk1 : k ≠ 1 := fun z => hc (.inr z)
    have hk : k ≤ 0 := by
      rcases q3 with z | z
      · exact absurd z hx
      · omega
    have c1 : (its.toArray.isEmpty || k == 1) = false := by
      rw [hem, decide_eq_false hx, Bool.false_or]
      exact beq_eq_false_iff_ne.mpr hk1
    have c2 : (decide (k ≤ 0) || its.toArray.isEmpty) = true := by rw [decide_eq_true hk]; rfl
    refine call_meets F.slot_tuple_mul ⟨_, ho, rfl⟩ F.entry_tuple_mul (F.args_tuple_mul_2 _ _) (mulNone l its.toArray n dd sl k t c0 c1 c2) ⟨ho, ?_⟩
    refine ⟨.ref s.heap.objs.size, _, I.laid (t' := s.toks) (o := .tup []) (fun b ob q => Heap.get?_push_of_some _ q) (Nat.le_refl _) ?_, rfl, q2 hx hk _ (I.hok.fresh (Nat.le_refl _))⟩
    exact ⟨Nat.zero_le _, [], .nil, IsTup.new _ _⟩
end

/-! ### the operators of ints, tuples, texts, lists -/
def Sm (i : Int) : Prop := i.natAbs < 2 ^ 4000
noncomputable instance (i : Int) : Decidable (Sm i) := Classical.propDecidable _
theorem Sm.of {i : Int} (h : i.natAbs < 2 ^ 200) : Sm i := Nat.lt_of_lt_of_le h (Nat.pow_le_pow_right (by decide) (by decide))
theorem Sm.mul {i j : Int} (h : Sm i) (g : Sm j) : CMulW i j := wide_mul h g (by decide) (by decide) (by decide)
theorem Sm.div {i j : Int} (h : 0 < j) (g : Sm j) : CDivW i j := wide_div h g (by decide) (by decide)
noncomputable def oAdd (x y : D) : Option D := match x, y with
  | .int i, .int j => some (.int (i + j))
  | .tup l, .tup m => if small (l ++ m) then some (.tup (l ++ m)) else none
  | .str a, .str b => if sml (a.length + b.length) = true then some (.str (a ++ b)) else none
  | _, _ => none
def rAddA (K : PySem.W.Frag) : R2 := fun x y H Q => rI0 (fun i j => .int (i + j)) x y H Q ∨ rCatA K x y H Q ∨ (∃ i j, x = .str i ∧ y = .str j ∧ i.length + j.length ≤ sizeLine ∧ Q (.str (i ++ j)) H)
section
variable {X : Cx} {K : PySem.W.Frag} {tp : TP} {ka kb : Kd}
theorem op_addA : OpR X (binaryOp .Add) (rAddA X.K) := OpR.or op_add (OpR.or op_catA op_add_str)
theorem od_add : OpD K tp (rAddA K) .l .l (.o 0) oAdd := fun O H x y dx dy d t Q ok ta ix iy h q => by
  unfold oAdd at h
  split at h
  · rename_i i j
    cases h
    exact .inl ⟨i, j, (Lv.all ix).int_inv, (Lv.all iy).int_inv, q _ _ (.sc ta rfl)⟩
  · rename_i l m
    split at h
    case isFalse => cases h
    rename_i hs
    cases h
    have ix' := Lv.tup ix
    have iy' := Lv.tup iy
    obtain ⟨a, xs, rfl, hx, hr⟩ := ix'.tupL
    obtain ⟨b, ys, rfl, hy, hr2⟩ := iy'.tupL
    refine .inr (.inl ⟨a, b, xs, ys, rfl, rfl, Same.seqT hid_sub hx, Same.seqT hid_sub hy, ?_, fun z => ?_, fun z1 z2 => ?_, fun z1 z2 p hp => ?_⟩)
    · rw [hr.1, hr2.1, ← List.length_append]; exact small_ok hs
    · have : l = [] := List.eq_nil_of_length_eq_zero (by rw [← hr.1, z]; rfl)
      subst this
      exact q _ _ (.mk0 .refl ta iy')
    · have : m = [] := List.eq_nil_of_length_eq_zero (by rw [← hr2.1, z2]; rfl)
      subst this
      rw [List.append_nil] at q
      exact q _ _ (.mk0 .refl ta ix')
    · exact q _ _ (.tupN ok ta hp (hr.append hr2))
  · rename_i a b
    split at h
    case isFalse => cases h
    rename_i hs
    cases h
    exact .inr (.inr ⟨a, b, (Lv.all ix).str_inv, (Lv.all iy).str_inv, Nat.le_trans (of_sml hs) (by decide), q _ _ (.sc ta rfl)⟩)
  · cases h
/-- list + list -/
def oCat (x y : D) : Option D := match x, y with
  | .lst l, .lst m => if small (l ++ m) then some (.lst (l ++ m)) else none
  | _, _ => none
theorem od_cat : OpD K tp rCat .l .l (.o 1) oCat := fun O H x y dx dy d t Q ok ta ix iy h q => by
  unfold oCat at h
  split at h
  case h_2 => cases h
  split at h
  case isFalse => cases h
  rename_i hs
  cases h
  obtain ⟨a, xs, rfl, hx, hr⟩ := Lv.lst ix
  obtain ⟨b, ys, rfl, hy, hr2⟩ := Lv.lst iy
  exact ⟨a, b, xs, ys, rfl, rfl, hx, hy, by rw [hr.1, hr2.1, ← List.length_append]; exact small_ok hs, fun p hp => q _ _ (.lstN ok ta hp (hr.append hr2))⟩
def oSub (x y : D) : Option D := oII (fun _ _ => True) (fun i j => .int (i - j)) x y
theorem od_sub : OpD K tp (rI0 fun i j => .int (i - j)) ka kb (.o 0) oSub := od_ii0 fun _ _ => rfl
/-- ints, and a tuple as often as told -/
def rep1 (k : Int) (l : List D) : Bool := @decide (-1000 ≤ k ∧ k ≤ 1000 ∧ l.length ≤ 1000) (Classical.propDecidable _)
theorem of_rep1 {k : Int} {l : List D} (h : rep1 k l = true) : -1000 ≤ k ∧ k ≤ 1000 ∧ l.length ≤ 1000 := @of_decide_eq_true _ (Classical.propDecidable _) h
def repL (k : Int) (l : List D) : List D := (List.replicate k.toNat l).flatten
noncomputable def oMul (x y : D) : Option D := match x, y with
  | .int i, .int j => if Sm i ∧ Sm j then some (.int (i * j)) else none
  | .tup l, .int k => if rep1 k l = true then some (.tup (repL k l)) else none
  | _, _ => none
def rMulA (K : PySem.W.Frag) : R2 := fun x y H Q => rI CMulW (fun i j => .int (i * j)) x y H Q ∨ rRepT K x y H Q ∨ rRepLow K x y H Q
theorem op_mulA : OpR X (binaryOp .Mult) (rMulA X.K) := OpR.or op_mulW (OpR.or op_repT op_repLow)
theorem RpL.rep {H : Hp} {xs : List V} {ds : List D} (r : RpL K tp H xs ds) : ∀ n : Nat, RpL K tp H (List.replicate n xs).flatten (List.replicate n ds).flatten
  | 0 => by simpa using RpL.nil
  | n + 1 => by
    rw [List.replicate_succ, List.replicate_succ, List.flatten_cons, List.flatten_cons]
    exact r.append (RpL.rep r n)
theorem od_mul : OpD K tp (rMulA K) .l kb (.o 0) oMul := fun O H x y dx dy d t Q ok ta ix iy h q => by
  unfold oMul at h
  split at h
  · rename_i i j
    split at h
    case isFalse => cases h
    rename_i hs
    cases h
    exact .inl ⟨i, j, (Lv.all ix).int_inv, iy.all.int_inv, hs.1.mul hs.2, q _ _ (.sc ta rfl)⟩
  · rename_i l k
    split at h
    case isFalse => cases h
    rename_i hs
    replace hs := of_rep1 hs
    cases h
    have ix' := Lv.tup ix
    obtain ⟨a, xs, rfl, hx, hr⟩ := ix'.tupL
    by_cases hc : xs = [] ∨ k ≤ 1
    · refine .inr (.inr ⟨a, k, xs, rfl, iy.all.int_inv, Same.seqT hid_sub hx, hs.1, hs.2.1, fun z => ?_, fun z1 z2 p hp => ?_, hc⟩)
      · have : repL k l = l := by
          unfold repL
          rcases z with z | z
          · have : l = [] := List.eq_nil_of_length_eq_zero (by rw [← hr.1, z]; rfl)
            subst this; simp
          · subst z; simp
        rw [this] at q
        exact q _ _ (.mk0 .refl ta ix')
      · have : repL k l = [] := by
          unfold repL
          rw [show k.toNat = 0 by omega]; rfl
        rw [this] at q
        exact q _ _ (.tupN ok ta hp .nil)
    · have h1 : xs ≠ [] := fun z => hc (.inl z)
      have h2 : 2 ≤ k := by
        by_cases z : k ≤ 1
        · exact absurd (.inr z) hc
        · omega
      exact .inr (.inl ⟨a, k, xs, rfl, iy.all.int_inv, Same.seqT hid_sub hx, h1, h2, hs.2.1, by rw [hr.1]; exact hs.2.2, fun p hp => q _ _ (.tupN ok ta hp (hr.rep k.toNat))⟩)
  · cases h
/-- list * int -/
def oRep (x y : D) : Option D := match x, y with
  | .lst l, .int k => if rep1 k l = true then some (.lst (repL k l)) else none
  | _, _ => none
theorem od_rep : OpD K tp rRep .l kb (.o 1) oRep := fun O H x y dx dy d t Q ok ta ix iy h q => by
  unfold oRep at h
  split at h
  case h_2 => cases h
  rename_i l k
  split at h
  case isFalse => cases h
  rename_i hs
  replace hs := of_rep1 hs
  cases h
  obtain ⟨a, xs, rfl, hx, hr⟩ := Lv.lst ix
  refine ⟨a, k, xs, rfl, iy.all.int_inv, hx, by omega, by omega, ?_, fun p hp => q _ _ (.lstN ok ta hp (hr.rep k.toNat))⟩
  rw [hr.1]
  exact Nat.le_trans (Nat.mul_le_mul hs.2.2 (show k.toNat ≤ 1000 by omega)) (by decide)
/-- small, not 0 -/
def divN (j : Int) : Bool := @decide (j ≠ 0 ∧ j.natAbs < 1073741824) (Classical.propDecidable _)
theorem of_divN {j : Int} (h : divN j = true) : j ≠ 0 ∧ j.natAbs < 1073741824 := @of_decide_eq_true _ (Classical.propDecidable _) h
noncomputable def oDiv (x y : D) : Option D := match x, y with
  | .int i, .int j => if 0 < j ∧ Sm j then some (.int (i / j)) else if divN j = true then some (.int (i.fdiv j)) else none
  | _, _ => none
def rDivA : R2 := fun x y H Q => rI CDivW (fun i j => .int (i / j)) x y H Q ∨ rI CDivN (fun i j => .int (i.fdiv j)) x y H Q
theorem op_divA : OpR X (binaryOp .FloorDiv) rDivA := OpR.or op_fdivW op_fdivN
theorem od_div : OpD K tp rDivA ka kb (.o 0) oDiv := fun O H x y dx dy d t Q ok ta ix iy h q => by
  unfold oDiv at h
  split at h
  case h_2 => cases h
  rename_i i j
  split at h
  · rename_i hs
    cases h
    exact .inl ⟨i, j, ix.all.int_inv, iy.all.int_inv, Sm.div hs.1 hs.2, q _ _ (.sc ta rfl)⟩
  · split at h
    case isFalse => cases h
    rename_i hs
    cases h
    exact .inr ⟨i, j, ix.all.int_inv, iy.all.int_inv, of_divN hs, q _ _ (.sc ta rfl)⟩
def oMod (x y : D) : Option D := oII (fun _ j => 0 < j) (fun i j => .int (i % j)) x y
theorem od_mod : OpD K tp (rI (fun _ j => 0 < j) fun i j => .int (i % j)) ka kb (.o 0) oMod := od_ii (fun _ _ => rfl) fun _ _ h => h
def oLt (x y : D) : Option D := oII (fun _ _ => True) (fun i j => .bl (decide (i < j))) x y
def oLe (x y : D) : Option D := oII (fun _ _ => True) (fun i j => .bl (decide (i ≤ j))) x y
def oGt (x y : D) : Option D := oII (fun _ _ => True) (fun i j => .bl (decide (j < i))) x y
def oGe (x y : D) : Option D := oII (fun _ _ => True) (fun i j => .bl (decide (j ≤ i))) x y
theorem od_lt : OpD K tp (rI0 fun i j => .bl (decide (i < j))) ka kb (.o 0) oLt := od_ii0 fun _ _ => rfl
theorem od_le : OpD K tp (rI0 fun i j => .bl (decide (i ≤ j))) ka kb (.o 0) oLe := od_ii0 fun _ _ => rfl
theorem od_gt : OpD K tp (rI0 fun i j => .bl (decide (j < i))) ka kb (.o 0) oGt := od_ii0 fun _ _ => rfl
theorem od_ge : OpD K tp (rI0 fun i j => .bl (decide (j ≤ i))) ka kb (.o 0) oGe := od_ii0 fun _ _ => rfl
def isN : D → Bool
  | .non => true
  | _ => false
theorem Rp.isN {H : Hp} {v : V} {d : D} (h : Rp K tp H v d) : decide (v = .non) = FL.isN d := by
  cases h <;> rfl
/-- is None; is True, is False -/
def oIs (x y : D) : Option D := match y with
  | .non => some (.bl (isN x))
  | .bl b => match x with
    | .bl a => some (.bl (decide (a = b)))
    | _ => none
  | _ => none
def oIsNot (x y : D) : Option D := match y with
  | .non => some (.bl (!isN x))
  | .bl b => match x with
    | .bl a => some (.bl (!decide (a = b)))
    | _ => none
  | _ => none
def rIsA : R2 := fun x y H Q => (y = .non ∧ Q (.bl (decide (x = .non))) H) ∨ ∃ a b, x = .bl a ∧ y = .bl b ∧ Q (.bl (decide (a = b))) H
def rIsNotA : R2 := fun x y H Q => (y = .non ∧ Q (.bl (!decide (x = .non))) H) ∨ ∃ a b, x = .bl a ∧ y = .bl b ∧ Q (.bl (!decide (a = b))) H
theorem op_isA : OpR X (compareOp .Is) rIsA := OpR.or op_isN op_is_bl
theorem op_isNotA : OpR X (compareOp .IsNot) rIsNotA := OpR.or op_notN op_isnot_bl
theorem od_is : OpD K tp rIsA ka kb (.o 0) oIs := fun O H x y dx dy d t Q ok ta ix iy h q => by
  unfold oIs at h
  split at h
  · cases h
    refine .inl ⟨iy.all.non_inv, ?_⟩
    rw [ix.all.isN]
    exact q _ _ (.sc ta rfl)
  · rename_i b
    split at h
    case h_2 => cases h
    rename_i a
    cases h
    exact .inr ⟨a, b, ix.all.bl_inv, iy.all.bl_inv, q _ _ (.sc ta rfl)⟩
  · cases h
theorem od_isNot : OpD K tp rIsNotA ka kb (.o 0) oIsNot := fun O H x y dx dy d t Q ok ta ix iy h q => by
  unfold oIsNot at h
  split at h
  · cases h
    refine .inl ⟨iy.all.non_inv, ?_⟩
    rw [ix.all.isN]
    exact q _ _ (.sc ta rfl)
  · rename_i b
    split at h
    case h_2 => cases h
    rename_i a
    cases h
    exact .inr ⟨a, b, ix.all.bl_inv, iy.all.bl_inv, q _ _ (.sc ta rfl)⟩
  · cases h
end
section
variable {X : Cx} {tp : TP} {B : Hp} {fl : List Nat} {e : Expr} {m : EM} {pos p1 p2 p3 : Pos} {kc : Nat}
/-- xs[::-1] of a list -/
theorem fe_rev (h : FE X tp B fl e .l m) : FE X tp B fl (.Subscript e (.Slice none none (some (.UnaryOp .USub (.Constant (.int 1) kc p1) p2)) p3) pos) (.o 1) (mUn oRev m) := PE.imp (pe_revL h) fun σ H Q ⟨Fs, ρ, t, d, t', R, hm, q⟩ => by
  obtain ⟨x, h1, h2⟩ := mUn_some hm
  refine ⟨Fs, ρ, t, x, t', R, h1, fun v H1 r => ?_⟩
  have R1 := R.step r.same r.tape
  unfold oRev at h2
  split at h2
  · rename_i l
    cases h2
    obtain ⟨a, xs, rfl, hs, hr⟩ := Lv.lst r.val
    refine ⟨a, xs, rfl, .inl (.inl hs), fun p hp => q _ _ (.trans r.same r.tape (.lstN R1.ok r.tape hp ⟨by simp [hr.1], fun i v d h1 h2 => ?_⟩))⟩
    have hi : i < xs.length := by have := (List.getElem?_eq_some_iff.mp h1).1; simpa using this
    have hi2 : i < l.length := by rw [← hr.1]; exact hi
    rw [List.getElem?_reverse hi] at h1
    rw [List.getElem?_reverse hi2, ← hr.1] at h2
    exact hr.2 _ v d h1 h2
  · cases h2
/-- a global constant of the module, as data -/
def GC (K : PySem.W.Frag) (mg : Str → Option Value) (x : Str) (d : D) : Prop := ∃ v u, mg x = some u ∧ RelV v u ∧ ∀ tp H, Rp K tp H v d
theorem fe_gc {x : Str} {d : D} (h : GC X.K X.mg x d) (hg : Gl X x) (hd : (x == ("__debug__" : Str)) = false := by decide) : FE X tp B fl (.Name x pos) (.o 0) (mC d) := by
  obtain ⟨v, u, h1, h2, h3⟩ := h
  exact fe_glob hg h1 h2 (h3 tp) hd
/-- [] for a list of lists -/
theorem fe_nil {n : Nat} : FE X tp B fl (.List [] pos) (.o (n + 1)) (mLst mNil) := PE.imp (pe_lst pa_nil) fun σ H Q ⟨Fs, ρ, t, d, t', R, hm, q⟩ => by
  obtain ⟨ds, h1, hs, rfl⟩ := mLst_some hm
  cases h1
  refine ⟨Nat.zero_le _, fun p hp => q _ _ ⟨.new hp, R.tape.new hp, [p], by simp, fun a ha => by rw [List.mem_singleton.mp ha]; exact hp, p, [], [], [], rfl, rfl, upd_same, rfl, rfl, rfl, fun i v d F h1 => by simp at h1⟩⟩
end
theorem boot_len' : bootBuiltins "len" = some (.builtin "len") := by decide +kernel
theorem boot_abs' : bootBuiltins "abs" = some (.builtin "abs") := by decide +kernel
theorem boot_all' : bootBuiltins "all" = some (.builtin "all") := by decide +kernel
theorem boot_any' : bootBuiltins "any" = some (.builtin "any") := by decide +kernel
theorem boot_sum' : bootBuiltins "sum" = some (.builtin "sum") := by decide +kernel
theorem boot_int' : bootBuiltins "int" = some (.type "int") := by decide +kernel
theorem boot_bool' : bootBuiltins "bool" = some (.type "bool") := by decide +kernel
theorem boot_str' : bootBuiltins "str" = some (.type "str") := by decide +kernel
theorem boot_tuple' : bootBuiltins "tuple" = some (.type "tuple") := by decide +kernel
theorem boot_list' : bootBuiltins "list" = some (.type "list") := by decide +kernel
end FL
set_option maxRecDepth 100000
set_option maxHeartbeats 4000000
noncomputable section
namespace FL
open PySem PySem.Spec PyProof.Rows L2

/-! ### the law's tape -/
def dropZ : List Int → List Int
  | [] => []
  | x :: r => if x = 0 then dropZ r else x :: r
def draw (t : Tape) (m : Int) : Int × Tape := match dropZ t.cells with
  | x :: r => (x % m, ⟨x / m :: r, t.seed⟩)
  | [] => (((t.seed * 48271 + 12345) % 2147483647) / 64 % m, ⟨[], (t.seed * 48271 + 12345) % 2147483647⟩)
noncomputable def F_draw : FM := fun ds t => match ds with
  | [.tape, .int m] => if 0 < m ∧ Sm m ∧ Sm t.seed then some (.int (draw t m).1, (draw t m).2) else none
  | _ => none
def seedOf : Int → List Int → Int
  | s, [] => s
  | s, x :: r => seedOf ((s * 31 + x) % 1000003) r
def absI (i : Int) : Int := if i < 0 then -i else i
def tapeOf (l : List Int) : Tape := ⟨l.map absI, seedOf 7 l + 1⟩
def tDraw2 (K : PySem.W.Frag) : TS :=
  tSeq (tIfS (tB (tGt (tCB (rLenA K) (tCons (tVar 2) tNil)) (tC (.int 0))))
    (tSeq (tAsg (tOp (rIx K) (tVar 2) (tC (.int 0))) (gName 3)) (tSeq (tAsg (tOp (rI CDivW fun i j => .int (i / j)) (tVar 3) (tVar 1)) (gSub (tVar 2) (tC (.int 0)) rSetL))
      (tRet (tOp (rI (fun _ j => 0 < j) fun i j => .int (i % j)) (tCB (fun xs H Q => (∃ i, xs = [.int i] ∧ Q (.int i) H) ∨ ∃ k, xs = [.bl k] ∧ Q (.int (if k then 1 else 0)) H) (tCons (tVar 3) tNil)) (tVar 1)))))
    tNext)
  (tSeq (tAsg (tOp (rI (fun _ j => 0 < j) fun i j => .int (i % j)) (tCB (fun xs H Q => (∃ i, xs = [.int i] ∧ Q (.int i) H) ∨ ∃ k, xs = [.bl k] ∧ Q (.int (if k then 1 else 0)) H) (tCons (tOp (rI0 fun i j => .int (i + j)) (tOp (rI CMulW fun i j => .int (i * j)) (tOp (rIx K) (tVar 0) (tC (.int 1))) (tC (.int 48271))) (tC (.int 12345))) tNil)) (tC (.int 2147483647))) (gSub (tVar 0) (tC (.int 1)) rSetL))
    (tRet (tOp (rI (fun _ j => 0 < j) fun i j => .int (i % j)) (tCB (fun xs H Q => (∃ i, xs = [.int i] ∧ Q (.int i) H) ∨ ∃ k, xs = [.bl k] ∧ Q (.int (if k then 1 else 0)) H) (tCons (tOp (rI CDivW fun i j => .int (i / j)) (tOp (rIx K) (tVar 0) (tC (.int 1))) (tC (.int 64))) tNil)) (tVar 1))))
def tDraw (K : PySem.W.Frag) : TS :=
  tSeq (tAsg (tOp (rIx K) (tVar 0) (tC (.int 0))) (gName 2))
  (tSeq (tWhile (tAnd (tB (tGt (tCB (rLenA K) (tCons (tVar 2) tNil)) (tC (.int 0)))) (tB (tEqI (tOp (rIx K) (tVar 2) (tC (.int 0))) (tC (.int 0))))) (tDrop (tBM K "list" rPopAt (tVar 2) (tCons (tC (.int 0)) tNil))))
  (tDraw2 K))
theorem atI0 {α : Type} {x : α} {r : List α} : atI (x :: r) 0 = some x := by
  show (ixN (r.length + 1) 0).bind _ = _
  unfold ixN
  rw [if_pos (by decide), if_pos (by omega)]; rfl
theorem ixN0 {n : Nat} : ixN (n + 1) 0 = some 0 := by
  unfold ixN
  rw [if_pos (by decide), if_pos (by omega)]; rfl
theorem seq0 {n : Nat} : seqIndex? 0 (n + 1) = some 0 := (ixN_seq (ixN0 (n := n))).1

theorem ta_upd {a c : Addr} {H' : Hp} {t' : Tape} (h : a ≠ c) (ha : H' a = some (.lst [.ref c, .int t'.seed])) (hc : H' c = some (.lst (t'.cells.map V.int))) : TapeAt (some (a, c)) H' t' := fun a' c' e => by
  cases e; exact ⟨h, ha, hc⟩
theorem sx_a {a c : Addr} {H H' : Hp} {o : HO} (s : SameX (some (a, c)) H H') : SameX (some (a, c)) H (upd H' a o) := fun b u h n => by
  rw [upd_ne fun z => n (by rw [z]; exact List.mem_cons_self)]; exact s b u h n
theorem sx_c {a c : Addr} {H H' : Hp} {o : HO} (s : SameX (some (a, c)) H H') : SameX (some (a, c)) H (upd H' c o) := fun b u h n => by
  rw [upd_ne fun z => n (by rw [z]; exact List.mem_cons_of_mem _ List.mem_cons_self)]; exact s b u h n
theorem draw_run {K : PySem.W.Frag} {Z : Ends} {H : Hp} {vs : List V} {E : XK} (h : spD K 2 0 F_draw vs H Z.rt E) {N : List Str} (hN : N.length = 4) : tDraw K Z (L2.start N vs) H := by
  obtain ⟨tp, t, ds, d, t', ta, hl, hr, hf, q⟩ := h
  unfold F_draw at hf
  split at hf
  case h_2 => cases hf
  rename_i m
  split at hf
  case isFalse => cases hf
  rename_i hc
  obtain ⟨hm, hsm, hss⟩ := hc
  have e2 : ∃ a c, tp = some (a, c) ∧ vs = [.ref a, .int m] := by
    have hvl : vs.length = 2 := hr.1
    match vs, hvl with
    | [v, w], _ =>
      have r0 := hr.head
      have r1 := hr.tail.head.int_inv
      subst r1
      cases r0 with
      | tape e => exact ⟨_, _, e, rfl⟩
  obtain ⟨a, c, rfl, rfl⟩ := e2
  obtain ⟨nac, ha, hcc⟩ := ta a c rfl
  have st : L2.start N [V.ref a, V.int m] = [some (.ref a), some (.int m), none, none] := by
    unfold L2.start
    rw [hN]; rfl
  rw [st]
  have fin : ∀ (i : Int) (t2 : Tape) (H' : Hp), draw t m = (i, t2) → TapeAt (some (a, c)) H' t2 → SameX (some (a, c)) H H' → Z.rt (.int i) H' := fun i t2 H' e ta' s => by
    rw [e] at hf
    cases hf
    exact q (.int i) H' ⟨s, ta', [], .nil, (fun a ha => nomatch ha), Rp.int _, rfl⟩
  refine ⟨.ref a, rfl, .inl ⟨a, [.ref c, .int t.seed], 0, .ref c, rfl, rfl, .inl (.inl ha), atI0, ?_⟩⟩
  refine ⟨fun n σ H' => ∃ cs : List Int, n = cs.length ∧ σ = [some (.ref a), some (.int m), some (.ref c), none] ∧ H' c = some (.lst (cs.map V.int)) ∧ H' a = some (.lst [.ref c, .int t.seed]) ∧ SameX (some (a, c)) H H' ∧ dropZ cs = dropZ t.cells, ⟨_, t.cells, rfl, rfl, hcc, ha, .refl, rfl⟩, ?_⟩
  rintro n σ H' ⟨cs, rfl, rfl, h1, h2, sx, hd⟩
  refine ⟨.ref c, rfl, .inl ⟨c, cs.map V.int, rfl, .inl (.inl (.inl h1)), ?_⟩⟩
  refine ⟨_, _, rfl, rfl, _, rfl, ?_⟩
  -- behind the loop
  have rest : (dropZ cs = cs) → tDraw2 K Z [some (.ref a), some (.int m), some (.ref c), none] H' := fun hz => by
    refine ⟨.ref c, rfl, .inl ⟨c, cs.map V.int, rfl, .inl (.inl (.inl h1)), ?_⟩⟩
    refine ⟨_, _, rfl, rfl, _, rfl, ?_⟩
    cases cs with
    | cons x r =>
      have hdr : draw t m = (x % m, ⟨x / m :: r, t.seed⟩) := by unfold draw; rw [← hd, hz]
      have hp : (decide ((0 : Int) < (((x :: r).map V.int).length : Nat))) = true := decide_eq_true (by simp only [List.map_cons, List.length_cons]; omega)
      rw [if_pos hp]
      refine ⟨.ref c, rfl, .inl ⟨c, (x :: r).map V.int, 0, .int x, rfl, rfl, .inl (.inl h1), atI0, ?_⟩⟩
      refine ⟨.int x, rfl, .int m, rfl, x, m, rfl, rfl, Sm.div hm hsm, ?_⟩
      refine ⟨.ref c, rfl, c, (x :: r).map V.int, 0, 0, rfl, rfl, h1, ixN0, ?_⟩
      refine ⟨.int x, rfl, .inl ⟨x, rfl, .int m, rfl, x, m, rfl, rfl, hm, ?_⟩⟩
      refine fin _ _ _ hdr (ta_upd nac ?_ upd_same) (sx_c sx)
      rw [upd_ne nac]; exact h2
    | nil =>
      have hdr : draw t m = (((t.seed * 48271 + 12345) % 2147483647) / 64 % m, ⟨[], (t.seed * 48271 + 12345) % 2147483647⟩) := by unfold draw; rw [← hd, hz]
      rw [if_neg (show ¬ ((fun i j : Int => decide (j < i)) ((([] : List Int).map V.int).length : Nat) 0 = true) from by decide)]
      refine ⟨.ref a, rfl, .inl ⟨a, [.ref c, .int t.seed], 1, .int t.seed, rfl, rfl, .inl (.inl h2), rfl, ?_⟩⟩
      refine ⟨t.seed, 48271, rfl, rfl, Sm.mul hss (Sm.of (by decide)), ?_⟩
      refine ⟨_, 12345, rfl, rfl, .inl ⟨_, rfl, ?_⟩⟩
      refine ⟨_, 2147483647, rfl, rfl, (by decide : (0 : Int) < 2147483647), ?_⟩
      refine ⟨.ref a, rfl, a, [.ref c, .int t.seed], 1, 1, rfl, rfl, h2, rfl, ?_⟩
      refine ⟨.ref a, rfl, .inl ⟨a, [.ref c, .int ((t.seed * 48271 + 12345) % 2147483647)], 1, .int ((t.seed * 48271 + 12345) % 2147483647), rfl, rfl, .inl (.inl upd_same), rfl, ?_⟩⟩
      refine ⟨_, 64, rfl, rfl, Sm.div (by decide) (Sm.of (by decide)), .inl ⟨_, rfl, .int m, rfl, _, m, rfl, rfl, hm, ?_⟩⟩
      refine fin _ _ _ hdr (ta_upd nac upd_same ?_) (sx_a sx)
      rw [upd_ne (Ne.symm nac)]; exact h1
  cases cs with
  | nil =>
    exact rest rfl
  | cons x r =>
    have hp : (decide ((0 : Int) < (((x :: r).map V.int).length : Nat))) = true := decide_eq_true (by simp only [List.map_cons, List.length_cons]; omega)
    simp only [hp, if_true]
    refine ⟨.ref c, rfl, .inl ⟨c, (x :: r).map V.int, 0, .int x, rfl, rfl, .inl (.inl h1), atI0, ?_⟩⟩
    refine ⟨x, 0, rfl, rfl, _, rfl, ?_⟩
    by_cases hx : x = 0
    · simp only [decide_eq_true hx, if_true]
      refine ⟨fun σ' H2 => ∃ cs' : List Int, cs'.length < (x :: r).length ∧ σ' = [some (.ref a), some (.int m), some (.ref c), none] ∧ H2 c = some (.lst (cs'.map V.int)) ∧ H2 a = some (.lst [.ref c, .int t.seed]) ∧ SameX (some (a, c)) H H2 ∧ dropZ cs' = dropZ t.cells, fun σ' H2 ⟨cs', e1, e2, e3, e4, e5, e6⟩ => ⟨_, e1, cs', rfl, e2, e3, e4, e5, e6⟩, ?_⟩
      refine ⟨.ref c, rfl, .inl ⟨rfl, _, .inl (.inl h1)⟩, c, (x :: r).map V.int, 0, 0, .int x, rfl, rfl, h1, by decide, by decide, ?_, rfl, ?_⟩
      · rw [List.length_map]; exact seq0
      · refine ⟨r, Nat.lt_succ_self _, rfl, by rw [upd_same]; rfl, by rw [upd_ne nac]; exact h2, sx_c sx, ?_⟩
        rw [← hd]
        unfold dropZ
        rw [if_pos hx]
        cases r <;> rfl
    · simp only [decide_eq_false hx, Bool.false_eq_true, if_false]
      refine rest ?_
      unfold dropZ
      rw [if_neg hx]

/-! the law's tape from the script -/
def spTape (K : PySem.W.Frag) : Sp := fun vs H Q _ => ∃ (a : Addr) (ns : List Int), vs = [.ref a] ∧ SqL K H a (ns.map V.int) ∧ ns.length ≤ 1000 ∧ ∀ p c H', SameX none H H' → H p = none → H c = none → TapeAt (some (p, c)) H' (tapeOf ns) → Q (.ref p) H'
def rInt1 : List V → Hp → VK → Prop := fun xs H Q => (∃ i, xs = [.int i] ∧ Q (.int i) H) ∨ ∃ k, xs = [.bl k] ∧ Q (.int (if k then 1 else 0)) H
def rAbs1 : List V → Hp → VK → Prop := fun xs H Q => ∃ i, xs = [.int i] ∧ Q (.int (if i < 0 then -i else i)) H
def tTape (K : PySem.W.Frag) : TS :=
  tSeq (tAsg (tC (.int 7)) (gName 1))
  (tSeq (tFor (iList K (tVar 0)) (gName 2) (tAsg (tOp (rI (fun _ j => 0 < j) fun i j => .int (i % j)) (tCB rInt1 (tCons (tOp (rI0 fun i j => .int (i + j)) (tOp (rI CMulW fun i j => .int (i * j)) (tVar 1) (tC (.int 31))) (tVar 2)) tNil)) (tC (.int 1000003))) (gName 1)))
  (tRet (tLst (tCons (tLc (iList K (tVar 0)) (gName 2) tYes (tCB rAbs1 (tCons (tCB rInt1 (tCons (tVar 2) tNil)) tNil)) [2]) (tCons (tOp (rI0 fun i j => .int (i + j)) (tVar 1) (tC (.int 1))) tNil)))))
theorem seqL_same {K : PySem.W.Frag} {H H' : Hp} {a : Addr} {xs : List V} (s : Same H H') (h : SqL K H a xs) : SqL K H' a xs := by
  rcases h with (h | ⟨o, h⟩) | h
  · exact .inl (.inl (s _ _ h))
  · exact .inl (.inr ⟨o, s _ _ h⟩)
  · exact .inr h
theorem tape_run {K : PySem.W.Frag} {Z : Ends} {H : Hp} {vs : List V} {E : XK} (h : spTape K vs H Z.rt E) {N : List Str} (hN : N.length = 3) : tTape K Z (L2.start N vs) H := by
  obtain ⟨a, ns, rfl, hq, hl, q⟩ := h
  have st : L2.start N [V.ref a] = [some (.ref a), none, none] := by
    unfold L2.start
    rw [hN]; rfl
  rw [st]
  refine ⟨.ref a, rfl, a, rfl, ⟨_, hq⟩, ?_⟩
  have hml : (ns.map V.int).length = ns.length := List.length_map ..
  refine ⟨fun i m σ H' => m = ns.length - i ∧ i ≤ ns.length ∧ H' = H ∧ ∃ s c, 0 ≤ s ∧ s < 1000003 ∧ σ = [some (.ref a), some (.int s), c] ∧ seedOf s (ns.drop i) = seedOf 7 ns, ⟨_, rfl, Nat.zero_le _, rfl, 7, none, by decide, by decide, rfl, rfl⟩, ?_⟩
  rintro i m σ H' ⟨rfl, hi, rfl, s, c, s0, s1, rfl, hs⟩
  by_cases hlt : i < ns.length
  · have hx : (ns.map V.int)[i]? = some (.int ns[i]) := by rw [List.getElem?_map, List.getElem?_eq_getElem hlt]; rfl
    refine .inr ⟨⟨_, _, hq, hx⟩, fun σ' H2 => H2 = H' ∧ ∃ s c, 0 ≤ s ∧ s < 1000003 ∧ σ' = [some (.ref a), some (.int s), c] ∧ seedOf s (ns.drop (i + 1)) = seedOf 7 ns, fun σ' H2 ⟨e, s, c, r⟩ => ⟨ns.length - (i + 1), by omega, rfl, hlt, e, s, c, r⟩, ?_⟩
    rintro x H2 ⟨rfl, hy⟩
    have ex := hy _ hq
    rw [hx] at ex
    cases ex
    refine ⟨.int s, rfl, s, 31, rfl, rfl, ?_, .int ns[i], rfl, s * 31, ns[i], rfl, rfl, .inl ⟨_, rfl, _, 1000003, rfl, rfl, (by decide : (0 : Int) < 1000003), ?_⟩⟩
    · exact Sm.mul (Sm.of (by have : s.natAbs < 1000003 := by omega
                              exact Nat.lt_trans this (by decide))) (Sm.of (by decide))
    · refine ⟨rfl, (s * 31 + ns[i]) % 1000003, some (.int ns[i]), Int.emod_nonneg _ (by decide), Int.emod_lt_of_pos _ (by decide), rfl, ?_⟩
      rw [← hs, List.drop_eq_getElem_cons hlt]
      rfl
  · have e : i = ns.length := by omega
    subst e
    rw [List.drop_length] at hs
    refine .inl ⟨⟨_, hq, by rw [hml]; exact Nat.le_refl _⟩, ?_⟩
    refine ⟨.ref a, rfl, a, rfl, ⟨_, hq⟩, fun L hL => ?_⟩
    have hLa : Same H' (upd H' L (.lst [])) := same_new hL
    have sm : ∀ xs : List V, Same H' (upd H' L (.lst xs)) := fun xs => same_new hL
    refine lc_list (K := K) (a := a) (xs := ns.map V.int) (fun i H2 => H2 = upd H' L (.lst ((ns.take i).map fun z => V.int (absI z)))) rfl (fun i H2 _ e => by rw [e]; exact seqL_same (sm _) hq) (fun i x H2 hx e => ?_) (fun H2 e => ?_)
    · subst e
      have hi2 : i < ns.length := by
        have := (List.getElem?_eq_some_iff.mp hx).1
        rw [hml] at this; exact this
      have hx2 : x = .int ns[i] := by
        rw [List.getElem?_map, List.getElem?_eq_getElem hi2] at hx
        cases hx; rfl
      subst hx2
      refine ⟨rfl, _, rfl, .inl ⟨_, rfl, _, rfl, _, upd_same, ?_, ?_⟩⟩
      · rw [List.length_map, List.length_take]
        exact Nat.lt_of_le_of_lt (Nat.min_le_right _ _) (Nat.lt_of_le_of_lt hl (by decide))
      · rw [upd_upd, List.take_succ_eq_append_getElem hi2, List.map_append]
        rfl
    · subst e
      rw [hml, List.take_length]
      refine ⟨.int s, rfl, s, 1, rfl, rfl, (by decide : 2 ≤ sizeLine), fun p hp => ?_⟩
      have hpL : p ≠ L := fun z => by rw [z, upd_same] at hp; cases hp
      have hp' : H' p = none := by rw [← hp, upd_ne hpL]
      refine q p L _ (fun b u hb _ => ?_) hp' hL ?_
      · rw [upd_ne (ne_of_none hb hp'), upd_ne (ne_of_none hb hL)]; exact hb
      · refine ta_upd hpL ?_ ?_
        · rw [upd_same]
          show _ = some (HO.lst [V.ref L, V.int (seedOf 7 ns + 1)])
          rw [← hs]; rfl
        · rw [upd_ne (Ne.symm hpL), upd_same]
          show _ = some (HO.lst ((ns.map absI).map V.int))
          rw [List.map_map]; rfl
end FL
set_option maxRecDepth 100000
set_option maxHeartbeats 4000000
noncomputable section
namespace FL
open PySem PySem.Spec PyProof.Rows L2
/-- what the law promises -/
def spLaw (K : PySem.W.Frag) : Sp := fun vs H Q _ => ∃ (a : Addr) (ns : List Int), vs = [.ref a] ∧ SqL K H a (ns.map V.int) ∧ ns.length ≤ 63 ∧ ∀ H', Q (.bl true) H'
/-- the names of the law as it starts: the tape at slot i -/
def lawE (n i : Nat) : Env := (List.replicate n none).set i (some .tape)
theorem rep_flat (n : Nat) : (List.replicate n ([] : List Addr)).flatten = [] := by simp
theorem fl_law {P : Program} {w : World} {K : PySem.W.Frag} {mg : Str → Option Value} {base : Heap} {qual y x : Str} {st : Stmt} {f ft : Addr} {fd fdt : FuncData} {N : List Str} {j i : Nat} {sm : SM} {rest : List Stmt} {px pp ps pa pc : Pos} {fl0 : List Nat}
    (F : Fun K x qual st f fd) (S : FnScope N ["script"] (defScope st)) (FT : FnOk P w K mg base CX0 1 ft fdt ["script"] (spTape K)) (hk : PySem.W.keepIn K (.ref ft) = true) (hb : Binds K fdt ["script"] []) (hm : mg "_law_tape" = some (.ref ft)) (hj : 1 ≤ j)
    (hd : defBody st = .Assign [.Name y px] (.Call (.Name "_law_tape" pp) [.Name "script" ps] [] pc) pa :: rest)
    (hi : N[i]? = some y) (hi0 : i ≠ 0)
    (h1 : ∀ (cdv : Value) (A : Around) (outer : List PySem.Env) (s : Shared) (H : Hp) (E : XK) (te : TE), PE (cxOf CX0 P w K mg base N qual (defScope st) f cdv A outer s H E).nox (.Call (.Name "_law_tape" pp) [.Name "script" ps] [] pc) te → PS (cxOf CX0 P w K mg base N qual (defScope st) f cdv A outer s H E).nox (.Assign [.Name y px] (.Call (.Name "_law_tape" pp) [.Name "script" ps] [] pc) pa) (tAsg te (gName i)))
    (hc : ∀ (cdv : Value) (A : Around) (outer : List PySem.Env) (s : Shared) (H : Hp) (E : XK), Room j (A.deeper (envOfC qual (defScope st) s.heap.objs.size f cdv)) →
      PE (cxOf CX0 P w K mg base N qual (defScope st) f cdv A outer s H E).nox (.Call (.Name "_law_tape" pp) [.Name "script" ps] [] pc) (tCall (spTape K) [] (fun _ _ _ => False) (tCons (tVar 0) tNil)))
    (h2 : ∀ (cdv : Value) (A : Around) (outer : List PySem.Env) (s : Shared) (H : Hp) (E : XK) (tp : TP) (B : Hp), Room j (A.deeper (envOfC qual (defScope st) s.heap.objs.size f cdv)) →
      ∃ fl', FSs (cxOf CX0 P w K mg base N qual (defScope st) f cdv A outer s H E).nox tp B 0 [] fl0 fl' rest sm) (hfl0 : fl0 = List.replicate N.length 0)
    (plain : ∀ ns : List Int, ns.length ≤ 63 → ∃ t', sm (lawE N.length i) (tapeOf ns) = some (.rt (.bl true) t')) : FnOk P w K mg base CX0 (j + 1) f fd ["script"] (spLaw K) := by
  subst hfl0
  refine F.ok S (fun vs H Q E ⟨a, ns, e, _⟩ => by rw [e]; rfl) fun cdv A outer s H vs Q E hr ⟨a, ns, e, hq, hl, q⟩ => ?_
  subst e
  have key : ∀ p : TP × Hp, ∃ fl', FSs (cxOf CX0 P w K mg base N qual (defScope st) f cdv A outer s H E).nox p.1 p.2 0 [] (List.replicate N.length 0) fl' rest sm := fun p => h2 cdv A outer s H E p.1 p.2 hr
  refine ⟨tSeq (tAsg (tCall (spTape K) [] (fun _ _ _ => False) (tCons (tVar 0) tNil)) (gName i)) (fun Z σ H => ∃ p : TP × Hp, tS K p.1 p.2 0 [] (List.replicate N.length 0) (key p).choose sm Z σ H), ?_, ?_⟩
  · rw [hd]
    exact pss_cons (h1 cdv A outer s H E _ (hc cdv A outer s H E hr)) (PSs.ex fun p => (key p).choose_spec)
  have hN0 : 0 < N.length := by
    have := S.pre
    cases N with
    | nil => cases this
    | cons _ _ => exact Nat.succ_pos _
  have hiN : i < N.length := (List.getElem?_eq_some_iff.mp hi).1
  have st0 : L2.start N [V.ref a] = some (.ref a) :: List.replicate (N.length - 1) none := rfl
  refine ⟨.ref a, by rw [st0]; rfl, a, ns, rfl, hq, Nat.le_trans hl (by decide), fun p c H' sx hp hcn ta => ?_⟩
  obtain ⟨t', ht⟩ := plain ns hl
  refine ⟨(some (p, c), hid [p, c] H'), ⟨[], List.replicate N.length []⟩, lawE N.length i, tapeOf ns, _, ?_, ht, fun v H2 r => ?_⟩
  · have e0 : ours (some (p, c)) ⟨[], List.replicate N.length []⟩ = [p, c] := by
      unfold ours
      rw [rep_flat]; rfl
    have hl2 : ((L2.start N [V.ref a]).set i (some (.ref p))).length = N.length := by
      rw [List.length_set, st0]; simp; omega
    refine ⟨by rw [hl2]; simp, by rw [hl2]; simp [lawE], by rw [hl2]; simp, ?_, ta, by rw [e0]; exact Same.refl _, fun b hb => ?_, fun k F h3 h4 => ?_, fun k n d F h3 h4 h5 => ?_⟩
    · rw [e0]
      have := (ta p c rfl).1
      simp [this]
    · rw [rep_flat] at hb; cases hb
    · have h4' : (List.replicate N.length ([] : List Addr))[k]? = some F := h4
      rw [List.getElem?_replicate] at h4'
      split at h4'
      · cases h4'; rfl
      · cases h4'
    · have h5' : (List.replicate N.length ([] : List Addr))[k]? = some F := h5
      rw [List.getElem?_replicate] at h3 h5'
      split at h3
      case isFalse => cases h3
      rename_i hk'
      rw [if_pos hk'] at h5'
      cases h3; cases h5'
      unfold lawE at h4
      by_cases hki : i = k
      · subst hki
        rw [List.getElem?_set_self (by simpa using hiN)] at h4
        cases h4
        refine ⟨.ref p, ?_, .tape rfl, rfl⟩
        rw [List.getElem?_set_self (by rw [st0]; simp; omega)]
      · rw [List.getElem?_set_ne hki, List.getElem?_replicate] at h4
        split at h4 <;> cases h4
  · obtain ⟨F, _, _, ow⟩ := r.val
    have := ow.1.bl_inv
    subst this
    exact q H2
end FL
namespace FL
open PySem PySem.Spec PyProof.Rows L2
theorem gc_int {K : PySem.W.Frag} {mg : Str → Option Value} {x : Str} {i : Int} {t : Tok} (h : mg x = some (.int i t)) : GC K mg x (.int i) := ⟨.int i, _, h, ⟨t, rfl⟩, fun _ _ => .int i⟩
theorem gc_str {K : PySem.W.Frag} {mg : Str → Option Value} {x : Str} {i : Str} {t : Tok} (h : mg x = some (.str i t)) : GC K mg x (.str i) := ⟨.str i, _, h, ⟨t, rfl⟩, fun _ _ => .str i⟩
theorem gc_ints {K : PySem.W.Frag} {mg : Str → Option Value} {x : Str} {a : Addr} {od : Option Addr} {its : Array Value} {n : Nat} {sl : Array (Option Value)} {is : List Int} (h : mg x = some (.ref a)) (l : K.lookup a = some ⟨.type "tuple", od, .seq its n, sl⟩) (hs : its.size ≤ sizeLine) (v : Vals (is.map V.int) its.toList) : GC K mg x (.tup (is.map D.int)) :=
  ⟨.ref a, _, h, rfl, fun tp H => .tup (xs := is.map V.int) (.inr ⟨_, its, n, l, rfl, rfl, hs, v⟩) (by simp) fun i w d h1 h2 => by
    rw [List.getElem?_map] at h1 h2
    cases e : is[i]? with
    | none => rw [e] at h1; cases h1
    | some z => rw [e] at h1 h2; cases h1; cases h2; exact .int z⟩
end FL
set_option maxRecDepth 100000
set_option maxHeartbeats 4000000
noncomputable section
namespace FL
open PySem PySem.Spec PyProof.Rows L2
/-! evaluation of mirrors -/
theorem isi_int_non : oIsi "int" .non = some (.bl false) := by simp only [oIsi, dKind, kb_none_int, Option.map_some]
theorem isi_int_bl (b) : oIsi "int" (.bl b) = some (.bl true) := by simp only [oIsi, dKind, kb_bool_int, Option.map_some]
theorem isi_int_int (b) : oIsi "int" (.int b) = some (.bl true) := by simp only [oIsi, dKind, kb_int_int, Option.map_some]
theorem isi_int_str (b) : oIsi "int" (.str b) = some (.bl false) := by simp only [oIsi, dKind, kb_str_int, Option.map_some]
theorem isi_int_tup (b) : oIsi "int" (.tup b) = some (.bl false) := by simp only [oIsi, dKind, kb_tuple_int, Option.map_some]
theorem isi_int_lst (b) : oIsi "int" (.lst b) = some (.bl false) := by simp only [oIsi, dKind, kb_list_int, Option.map_some]
theorem isi_bool_non : oIsi "bool" .non = some (.bl false) := by simp only [oIsi, dKind, kb_none_bool, Option.map_some]
theorem isi_bool_bl (b) : oIsi "bool" (.bl b) = some (.bl true) := by simp only [oIsi, dKind, kb_bool_bool, Option.map_some]
theorem isi_bool_int (b) : oIsi "bool" (.int b) = some (.bl false) := by simp only [oIsi, dKind, kb_int_bool, Option.map_some]
theorem isi_bool_str (b) : oIsi "bool" (.str b) = some (.bl false) := by simp only [oIsi, dKind, kb_str_bool, Option.map_some]
theorem isi_bool_tup (b) : oIsi "bool" (.tup b) = some (.bl false) := by simp only [oIsi, dKind, kb_tuple_bool, Option.map_some]
theorem isi_bool_lst (b) : oIsi "bool" (.lst b) = some (.bl false) := by simp only [oIsi, dKind, kb_list_bool, Option.map_some]
theorem isi_tuple_non : oIsi "tuple" .non = some (.bl false) := by simp only [oIsi, dKind, kb_none_tuple, Option.map_some]
theorem isi_tuple_bl (b) : oIsi "tuple" (.bl b) = some (.bl false) := by simp only [oIsi, dKind, kb_bool_tuple, Option.map_some]
theorem isi_tuple_int (b) : oIsi "tuple" (.int b) = some (.bl false) := by simp only [oIsi, dKind, kb_int_tuple, Option.map_some]
theorem isi_tuple_str (b) : oIsi "tuple" (.str b) = some (.bl false) := by simp only [oIsi, dKind, kb_str_tuple, Option.map_some]
theorem isi_tuple_tup (b) : oIsi "tuple" (.tup b) = some (.bl true) := by simp only [oIsi, dKind, kb_tuple_tuple, Option.map_some]
theorem isi_tuple_lst (b) : oIsi "tuple" (.lst b) = some (.bl false) := by simp only [oIsi, dKind, kb_list_tuple, Option.map_some]
theorem isi_str_non : oIsi "str" .non = some (.bl false) := by simp only [oIsi, dKind, kb_none_str, Option.map_some]
theorem isi_str_bl (b) : oIsi "str" (.bl b) = some (.bl false) := by simp only [oIsi, dKind, kb_bool_str, Option.map_some]
theorem isi_str_int (b) : oIsi "str" (.int b) = some (.bl false) := by simp only [oIsi, dKind, kb_int_str, Option.map_some]
theorem isi_str_str (b) : oIsi "str" (.str b) = some (.bl true) := by simp only [oIsi, dKind, kb_str_str, Option.map_some]
theorem isi_str_tup (b) : oIsi "str" (.tup b) = some (.bl false) := by simp only [oIsi, dKind, kb_tuple_str, Option.map_some]
theorem isi_str_lst (b) : oIsi "str" (.lst b) = some (.bl false) := by simp only [oIsi, dKind, kb_list_str, Option.map_some]
theorem oAdd_int (i j : Int) : oAdd (.int i) (.int j) = some (.int (i + j)) := rfl
theorem oSub_int (i j : Int) : oSub (.int i) (.int j) = some (.int (i - j)) := rfl
theorem oMul_int {i j : Int} (h : Sm i) (g : Sm j) : oMul (.int i) (.int j) = some (.int (i * j)) := by simp only [oMul, h, g, and_self, if_true]
theorem oDiv_int {i j : Int} (h : 0 < j) (g : Sm j) : oDiv (.int i) (.int j) = some (.int (i / j)) := by simp only [oDiv, h, g, and_self, if_true]
theorem oMod_int {i j : Int} (h : 0 < j) : oMod (.int i) (.int j) = some (.int (i % j)) := by simp only [oMod, oII, h, if_true]
theorem oLt_int (i j : Int) : oLt (.int i) (.int j) = some (.bl (decide (i < j))) := rfl
theorem oLe_int (i j : Int) : oLe (.int i) (.int j) = some (.bl (decide (i ≤ j))) := rfl
theorem oGt_int (i j : Int) : oGt (.int i) (.int j) = some (.bl (decide (j < i))) := rfl
theorem oGe_int (i j : Int) : oGe (.int i) (.int j) = some (.bl (decide (j ≤ i))) := rfl
theorem oNeg_int (i : Int) : oNeg (.int i) = some (.int (-i)) := rfl
theorem oEq_int (i j : Int) : oEq (.int i) (.int j) = some (.bl (decide (i = j))) := by
  show some (D.bl (i == j)) = _
  rw [Bool.beq_eq_decide_eq]
theorem oNe_int (i j : Int) : oNe (.int i) (.int j) = some (.bl (!decide (i = j))) := by
  show some (D.bl (!(i == j))) = _
  rw [Bool.beq_eq_decide_eq]
theorem oIs_non (x : D) : oIs x .non = some (.bl (isN x)) := by cases x <;> rfl
theorem oIsNot_non (x : D) : oIsNot x .non = some (.bl (!isN x)) := by cases x <;> rfl
theorem isN_non : isN .non = true := rfl
theorem isN_int (i) : isN (.int i) = false := rfl
theorem isN_bl (i) : isN (.bl i) = false := rfl
theorem isN_str (i) : isN (.str i) = false := rfl
theorem isN_tup (i) : isN (.tup i) = false := rfl
theorem isN_lst (i) : isN (.lst i) = false := rfl
theorem oIx_tup0 (a : D) (l : List D) : oIx (.tup (a :: l)) (.int 0) = some a := by
  show atI _ _ = _
  exact atI0
theorem oIx_tup1 (a b : D) (l : List D) : oIx (.tup (a :: b :: l)) (.int 1) = some b := by
  show atI _ _ = _
  unfold atI ixN
  rw [if_pos (by decide), if_pos (by simp only [List.length_cons]; omega)]; rfl
/-- the place i in bounds -/
theorem oIx_tup {l : List D} {i : Int} {d : D} (h0 : 0 ≤ i) (h : l[i.toNat]? = some d) : oIx (.tup l) (.int i) = some d := by
  show atI _ _ = _
  have hl := (List.getElem?_eq_some_iff.mp h).1
  unfold atI ixN
  rw [if_pos h0, if_pos (by omega)]
  exact h
theorem oIx_lst {l : List D} {i : Int} {d : D} (h0 : 0 ≤ i) (h : l[i.toNat]? = some d) : oIx (.lst l) (.int i) = some d := by
  show atI _ _ = _
  have hl := (List.getElem?_eq_some_iff.mp h).1
  unfold atI ixN
  rw [if_pos h0, if_pos (by omega)]
  exact h
theorem ixN_of {n : Nat} {i : Int} (h0 : 0 ≤ i) (h : i < n) : ixN n i = some i.toNat := by
  unfold ixN
  rw [if_pos h0, if_pos h]
theorem small_of {l : List D} (h : l.length ≤ 100000) : small l = true := sml_of h
theorem rep1_of {k : Int} {l : List D} (h1 : -1000 ≤ k) (h2 : k ≤ 1000) (h3 : l.length ≤ 1000) : rep1 k l = true := @decide_eq_true _ (Classical.propDecidable _) ⟨h1, h2, h3⟩
theorem divN_of {j : Int} (h1 : j ≠ 0) (h2 : j.natAbs < 1073741824) : divN j = true := @decide_eq_true _ (Classical.propDecidable _) ⟨h1, h2⟩
theorem big_of {i : Int} (h : -(2 ^ 62) ≤ i) (g : i < 2 ^ 62) : big i = true := @decide_eq_true _ (Classical.propDecidable _) ⟨h, g⟩
/-- the tape in its order -/
def TOk (t : Tape) : Prop := 0 ≤ t.seed ∧ t.seed ≤ 2147483647
theorem seedOf_lt : ∀ (l : List Int) (s : Int), 0 ≤ s → s < 1000003 → 0 ≤ seedOf s l ∧ seedOf s l < 1000003
  | [], s, h, g => ⟨h, g⟩
  | x :: r, s, h, g => seedOf_lt r _ (Int.emod_nonneg _ (by decide)) (Int.emod_lt_of_pos _ (by decide))
theorem tapeOf_ok (ns : List Int) : TOk (tapeOf ns) := by
  have := seedOf_lt ns 7 (by decide) (by decide)
  constructor <;> simp only [tapeOf] <;> omega
theorem draw_ev {t : Tape} {m : Int} (ht : TOk t) (hm : 0 < m) (hs : m < 2 ^ 200) : ∃ i t', F_draw [.tape, .int m] t = some (.int i, t') ∧ 0 ≤ i ∧ i < m ∧ TOk t' := by
  have h1 : Sm m := Sm.of (by omega)
  have h2 : Sm t.seed := Sm.of (by have := ht.1; have := ht.2; omega)
  refine ⟨(draw t m).1, (draw t m).2, by simp only [F_draw, hm, h1, h2, and_self, if_true], ?_⟩
  unfold draw
  split
  · exact ⟨Int.emod_nonneg _ (by omega), Int.emod_lt_of_pos _ hm, ht⟩
  · refine ⟨Int.emod_nonneg _ (by omega), Int.emod_lt_of_pos _ hm, ?_⟩
    have a := Int.emod_nonneg (t.seed * 48271 + 12345) (b := 2147483647) (by decide)
    have b := Int.emod_lt_of_pos (t.seed * 48271 + 12345) (b := 2147483647) (by decide)
    exact ⟨a, Int.le_of_lt (Int.lt_of_lt_of_le b (by decide))⟩
end FL
local macro_rules
  | `(tactic| simp! [$ls,*]) => `(tactic| simp only [FL.fnM, FL.mSeq, FL.mIf, FL.mRet, FL.mSet, FL.mPar2, FL.mPar3, FL.mDrop, FL.mSkip, FL.mAsg, FL.mAug, FL.mVar, FL.mC, FL.mOp, FL.mUn, FL.mTup, FL.mLst, FL.mCons, FL.mNil, FL.mCall, FL.mCallB, FL.mIfE, FL.mAndV, FL.mOrV, FL.mNotV, FL.mTst, FL.mAnd, FL.mOr, FL.mNot, FL.mRetN, FL.mBreak, FL.mCont,
  FL.mIt, FL.mIter, FL.dItems, FL.gmName, FL.gmTup, FL.gmNil, FL.gmCons, FL.mYes, FL.wipeE, FL.gAbs, FL.gInt, FL.gLen, FL.gTuple, FL.gList, FL.mNoO, FL.mO, FL.mSl,
  FL.isi_int_non, FL.isi_int_bl, FL.isi_int_int, FL.isi_int_str, FL.isi_int_tup, FL.isi_int_lst, FL.isi_bool_non, FL.isi_bool_bl, FL.isi_bool_int, FL.isi_bool_str, FL.isi_bool_tup, FL.isi_bool_lst,
  FL.isi_tuple_non, FL.isi_tuple_bl, FL.isi_tuple_int, FL.isi_tuple_str, FL.isi_tuple_tup, FL.isi_tuple_lst, FL.isi_str_non, FL.isi_str_bl, FL.isi_str_int, FL.isi_str_str, FL.isi_str_tup, FL.isi_str_lst,
  FL.oAdd_int, FL.oSub_int, FL.oLt_int, FL.oLe_int, FL.oGt_int, FL.oGe_int, FL.oNeg_int, FL.oEq_int, FL.oNe_int, FL.oIs_non, FL.oIsNot_non, FL.isN_non, FL.isN_int, FL.isN_bl, FL.isN_str, FL.isN_tup, FL.isN_lst, FL.oIx_tup0, FL.oIx_tup1, FL.plnL, FL.pln, FL.dep,
  List.map_cons, List.map_nil, List.length_cons, List.length_nil, List.cons_append, List.nil_append, List.replicate, List.getElem?_cons_zero, List.getElem?_cons_succ, List.set_cons_zero, List.set_cons_succ, Nat.reduceAdd, Nat.reduceSub, Nat.zero_add, Nat.sub_self, Nat.add_sub_cancel, Nat.succ_sub_succ, Nat.sub_zero,
  Option.bind_some, Option.map_some, Option.bind_none, Option.map_none, if_true, if_false, Bool.not_true, Bool.not_false, Bool.false_eq_true, Bool.true_and, Bool.and_true, reduceIte, decide_true, decide_false, List.all_cons, List.all_nil, Bool.and_self, Nat.reduceLeDiff, Nat.reduceEqDiff, Nat.reduceLT, Int.reduceLT, Int.reduceLE, Int.reduceEq, Int.reduceAdd, Int.reduceSub, Int.reduceMul, Int.reduceNeg, Int.cast_ofNat_Int, Int.natCast_zero, Int.natCast_one, id_eq, reduceCtorEq, Bool.not_eq_true', FL.bls, FL.small, FL.sml_of, List.length_map, List.length_range, $ls,*])
namespace FL.L
open PySem PySem.Spec PyProof.Rows L2 FL
noncomputable def m_ratios_is_integer : SM :=
  (mRet (mAndV (mUn (oIsi "int") (mVar 0)) (mNotV (mUn (oIsi "bool") (mVar 0)))))
noncomputable def F_ratios_is_integer : FM := fnM 1 0 m_ratios_is_integer
noncomputable def m_ratios_divisor : SM :=
  (mSeq (mPar2 0 1 (mCallB gAbs (mCons (mVar 0) mNil)) (mCallB gAbs (mCons (mVar 1) mNil))) (mSeq (mWhile (fun ρ _ => match ρ[1]? with | some (some (D.int o)) => o.toNat + 1 | _ => 0) (mTst (mOp oGt (mVar 1) (mC (.int 0)))) (mPar2 0 1 (mVar 1) (mOp oMod (mVar 0) (mVar 1)))) (mRet (mVar 0))))
noncomputable def F_ratios_divisor : FM := fnM 2 0 m_ratios_divisor
noncomputable def m_ratios_is_ratio : SM :=
  (mSeq (mIf (mOr (mNot (mTst (mUn (oIsi "tuple") (mVar 0)))) (mOr (mTst (mOp oNe (mCallB gLen (mCons (mVar 0) mNil)) (mC (.int 2)))) (mNot (mTst (mCallB gAll (mCons (mLc (mIt (mVar 0)) (gmName 1) mYes (mCall 1 0 F_ratios_is_integer (mCons (mVar 1) mNil)) [1]) mNil)))))) (mRet (mC (.bl false))) mSkip) (mRet (mAndV (mOp oGt (mOp oIx (mVar 0) (mC (.int 1))) (mC (.int 0))) (mOp oEq (mCall 2 0 F_ratios_divisor (mCons (mOp oIx (mVar 0) (mC (.int 0))) (mCons (mOp oIx (mVar 0) (mC (.int 1))) mNil))) (mC (.int 1))))))
noncomputable def F_ratios_is_ratio : FM := fnM 2 0 m_ratios_is_ratio
noncomputable def m_ratios_make : SM :=
  (mSeq (mIf (mTst (mOp oEq (mVar 1) (mC (.int 0)))) mNever mSkip) (mSeq (mSet 2 (mCall 2 0 F_ratios_divisor (mCons (mVar 0) (mCons (mVar 1) mNil)))) (mSeq (mIf (mTst (mOp oLt (mVar 1) (mC (.int 0)))) (mSet 2 (mUn oNeg (mVar 2))) mSkip) (mRet (mTup (mCons (mOp oDiv (mVar 0) (mVar 2)) (mCons (mOp oDiv (mVar 1) (mVar 2)) mNil)))))))
noncomputable def F_ratios_make : FM := fnM 3 0 m_ratios_make
noncomputable def m_ratios_add : SM :=
  (mRet (mCall 2 0 F_ratios_make (mCons (mOp oAdd (mOp oMul (mOp oIx (mVar 0) (mC (.int 0))) (mOp oIx (mVar 1) (mC (.int 1)))) (mOp oMul (mOp oIx (mVar 1) (mC (.int 0))) (mOp oIx (mVar 0) (mC (.int 1))))) (mCons (mOp oMul (mOp oIx (mVar 0) (mC (.int 1))) (mOp oIx (mVar 1) (mC (.int 1)))) mNil))))
noncomputable def F_ratios_add : FM := fnM 2 0 m_ratios_add
noncomputable def m_ratios_multiply : SM :=
  (mRet (mCall 2 0 F_ratios_make (mCons (mOp oMul (mOp oIx (mVar 0) (mC (.int 0))) (mOp oIx (mVar 1) (mC (.int 0)))) (mCons (mOp oMul (mOp oIx (mVar 0) (mC (.int 1))) (mOp oIx (mVar 1) (mC (.int 1)))) mNil))))
noncomputable def F_ratios_multiply : FM := fnM 2 0 m_ratios_multiply
noncomputable def m_ratios_less : SM :=
  (mRet (mOp oLt (mOp oMul (mOp oIx (mVar 0) (mC (.int 0))) (mOp oIx (mVar 1) (mC (.int 1)))) (mOp oMul (mOp oIx (mVar 1) (mC (.int 0))) (mOp oIx (mVar 0) (mC (.int 1))))))
noncomputable def F_ratios_less : FM := fnM 2 0 m_ratios_less
noncomputable def m_values_is_value : SM :=
  (mRet (mOrV (mOp oIs (mVar 0) (mC .non)) (mCall 1 0 F_ratios_is_ratio (mCons (mVar 0) mNil))))
noncomputable def F_values_is_value : FM := fnM 1 0 m_values_is_value
noncomputable def m_values_is_less : SM :=
  (mSeq (mIf (mOr (mTst (mOp oIs (mVar 0) (mC .non))) (mTst (mOp oIs (mVar 1) (mC .non)))) (mRet (mAndV (mOp oIs (mVar 0) (mC .non)) (mOp oIsNot (mVar 1) (mC .non)))) mSkip) (mRet (mCall 2 0 F_ratios_less (mCons (mVar 0) (mCons (mVar 1) mNil)))))
noncomputable def F_values_is_less : FM := fnM 2 0 m_values_is_less
noncomputable def m_values_greater : SM :=
  (mRet (mIfE (mTst (mCall 2 0 F_values_is_less (mCons (mVar 0) (mCons (mVar 1) mNil)))) (mVar 1) (mVar 0)))
noncomputable def F_values_greater : FM := fnM 2 0 m_values_greater
noncomputable def m_values_greatest : SM :=
  (mSeq (mSet 1 (mC .non)) (mSeq (mFor (mIt (mVar 0)) (gmName 2) (mSet 1 (mCall 2 0 F_values_greater (mCons (mVar 1) (mCons (mVar 2) mNil))))) (mRet (mVar 1))))
noncomputable def F_values_greatest : FM := fnM 3 0 m_values_greatest
noncomputable def m_values_plus : SM :=
  (mRet (mIfE (mOr (mTst (mOp oIs (mVar 0) (mC .non))) (mTst (mOp oIs (mVar 1) (mC .non)))) (mC .non) (mCall 2 0 F_ratios_add (mCons (mVar 0) (mCons (mVar 1) mNil)))))
noncomputable def F_values_plus : FM := fnM 2 0 m_values_plus
def d_ratios_ZERO : D := .tup [.int 0, .int 1]
noncomputable def m_values_times : SM :=
  (mSeq (mIf (mTst (mOp oEq (mVar 1) (mC (.int 0)))) (mRet (mC d_ratios_ZERO)) mSkip) (mRet (mIfE (mTst (mOp oIs (mVar 0) (mC .non))) (mC .non) (mCall 2 0 F_ratios_multiply (mCons (mVar 0) (mCons (mTup (mCons (mVar 1) (mCons (mC (.int 1)) mNil))) mNil))))))
noncomputable def F_values_times : FM := fnM 2 0 m_values_times
def d_rules_MOST_RULES : D := .int 24
noncomputable def m_rules_check_things : SM :=
  (mSeq (mIf (mOr (mNot (mTst (mCall 1 0 F_ratios_is_integer (mCons (mVar 2) mNil)))) (mOr (mTst (mOp oLt (mVar 2) (mC (.int 0)))) (mTst (mOp oGt (mVar 2) (mC (.int 200)))))) mNever mSkip) (mSeq (mIf (mOr (mNot (mTst (mUn (oIsi "tuple") (mVar 0)))) (mNot (mTst (mUn (oIsi "tuple") (mVar 1))))) mNever mSkip) (mSeq (mIf (mOr (mTst (mOp oNe (mCallB gLen (mCons (mVar 0) mNil)) (mCallB gLen (mCons (mVar 1) mNil)))) (mOr (mTst (mOp oGt (mCallB gLen (mCons (mVar 0) mNil)) (mC d_rules_MOST_RULES))) (mNot (mTst (mCallB gAll (mCons (mLc (mIt (mVar 1)) (gmName 3) mYes (mCall 1 0 F_ratios_is_ratio (mCons (mVar 3) mNil)) [3]) mNil)))))) mNever mSkip) (mIf (mNot (mTst (mCallB gAll (mCons (mLc (mIt (mVar 0)) (gmName 3) mYes (mAndV (mCall 1 0 F_ratios_is_integer (mCons (mVar 3) mNil)) (mOp oGt (mVar 3) (mC (.int 0)))) [3]) mNil)))) mNever mSkip))))
noncomputable def F_rules_check_things : FM := fnM 4 0 m_rules_check_things
noncomputable def m_rules_lots_of : SM :=
  (mSeq (mDrop (mCall 3 0 F_rules_check_things (mCons (mVar 0) (mCons (mVar 1) (mCons (mVar 2) mNil))))) (mSeq (mSet 3 (mOp oRep (mLst (mCons (mC d_ratios_ZERO) mNil)) (mOp oAdd (mVar 2) (mC (.int 1))))) (mSeq (mFor (mIter dZipA (mCons (mVar 0) (mCons (mVar 1) mNil))) (gmTup 2 (gmCons (gmName 4) (gmCons (gmName 5) gmNil))) (mFor (mIter dRangeD (mCons (mVar 2) (mCons (mOp oSub (mVar 4) (mC (.int 1))) (mCons (mUn oNeg (mC (.int 1))) mNil)))) (gmName 6) (mSeq (mSet 7 (mCall 2 0 F_values_plus (mCons (mOp oIx (mVar 3) (mOp oSub (mVar 6) (mVar 4))) (mCons (mVar 5) mNil)))) (mSetI 3 (mVar 6) (mIfE (mTst (mCall 2 0 F_values_is_less (mCons (mOp oIx (mVar 3) (mVar 6)) (mCons (mVar 7) mNil)))) (mVar 7) (mOp oIx (mVar 3) (mVar 6))))))) (mRet (mCallB gTuple (mCons (mVar 3) mNil))))))
noncomputable def F_rules_lots_of : FM := fnM 8 0 m_rules_lots_of
noncomputable def m_rules_chosen : SM :=
  (mSeq (mDrop (mCall 3 0 F_rules_check_things (mCons (mVar 0) (mCons (mVar 1) (mCons (mVar 2) mNil))))) (mSeq (mPar2 3 4 (mLst mNil) (mVar 2)) (mSeq (mFor (mIter dRangeD (mCons (mOp oSub (mCallB gLen (mCons (mVar 0) mNil)) (mC (.int 1))) (mCons (mUn oNeg (mC (.int 1))) (mCons (mUn oNeg (mC (.int 1))) mNil)))) (gmName 5) (mSeq (mSet 6 (mCall 3 0 F_rules_lots_of (mCons (mSl oSlT (mVar 0) mNoO (mO (mVar 5))) (mCons (mSl oSlT (mVar 1) mNoO (mO (mVar 5))) (mCons (mVar 4) mNil))))) (mSeq (mSet 7 (mCall 3 0 F_rules_lots_of (mCons (mSl oSlT (mVar 0) mNoO (mO (mOp oAdd (mVar 5) (mC (.int 1))))) (mCons (mSl oSlT (mVar 1) mNoO (mO (mOp oAdd (mVar 5) (mC (.int 1))))) (mCons (mVar 4) mNil))))) (mIf (mTst (mOp oNe (mOp oIx (mVar 7) (mVar 4)) (mOp oIx (mVar 6) (mVar 4)))) (mSeq (mApp 3 (mVar 5)) (mAug 4 (fun i j => i - j) (mOp oIx (mVar 0) (mVar 5)))) mSkip)))) (mRet (mCallB gTuple (mCons (mUn oRev (mVar 3)) mNil))))))
noncomputable def F_rules_chosen : FM := fnM 8 0 m_rules_chosen
def d_polys_MOST_DEGREE : D := .int 30
noncomputable def m_polys_is_poly : SM :=
  (mSeq (mIf (mOr (mNot (mTst (mUn (oIsi "tuple") (mVar 0)))) (mOr (mTst (mOp oGt (mCallB gLen (mCons (mVar 0) mNil)) (mOp oAdd (mC d_polys_MOST_DEGREE) (mC (.int 1))))) (mNot (mTst (mCallB gAll (mCons (mLc (mIt (mVar 0)) (gmName 1) mYes (mCall 1 0 F_values_is_value (mCons (mVar 1) mNil)) [1]) mNil)))))) (mRet (mC (.bl false))) mSkip) (mRet (mOrV (mOp oEq (mVar 0) (mTup mNil)) (mOp oIsNot (mOp oIx (mVar 0) (mUn oNeg (mC (.int 1)))) (mC .non)))))
noncomputable def F_polys_is_poly : FM := fnM 2 0 m_polys_is_poly
noncomputable def m_polys_check_poly : SM :=
  (mIf (mNot (mTst (mCall 1 0 F_polys_is_poly (mCons (mVar 0) mNil)))) mNever mSkip)
noncomputable def F_polys_check_poly : FM := fnM 1 0 m_polys_check_poly
noncomputable def m_polys_product : SM :=
  (mSeq (mDrop (mCall 1 0 F_polys_check_poly (mCons (mVar 0) mNil))) (mSeq (mDrop (mCall 1 0 F_polys_check_poly (mCons (mVar 1) mNil))) (mSeq (mIf (mOr (mTst (mOp oEq (mVar 0) (mTup mNil))) (mTst (mOp oEq (mVar 1) (mTup mNil)))) (mRet (mTup mNil)) mSkip) (mSeq (mIf (mTst (mOp oGt (mOp oSub (mOp oAdd (mCallB gLen (mCons (mVar 0) mNil)) (mCallB gLen (mCons (mVar 1) mNil))) (mC (.int 2))) (mC d_polys_MOST_DEGREE))) mNever mSkip) (mSeq (mSet 2 (mOp oRep (mLst (mCons (mC .non) mNil)) (mOp oSub (mOp oAdd (mCallB gLen (mCons (mVar 0) mNil)) (mCallB gLen (mCons (mVar 1) mNil))) (mC (.int 1))))) (mSeq (mFor (mIter dEnumA (mCons (mVar 0) mNil)) (gmTup 2 (gmCons (gmName 3) (gmCons (gmName 4) gmNil))) (mFor (mIter dEnumA (mCons (mVar 1) mNil)) (gmTup 2 (gmCons (gmName 5) (gmCons (gmName 6) gmNil))) (mSetI 2 (mOp oAdd (mVar 3) (mVar 5)) (mCall 2 0 F_values_greater (mCons (mOp oIx (mVar 2) (mOp oAdd (mVar 3) (mVar 5))) (mCons (mCall 2 0 F_values_plus (mCons (mVar 4) (mCons (mVar 6) mNil))) mNil)))))) (mRet (mCallB gTuple (mCons (mVar 2) mNil)))))))))
noncomputable def F_polys_product : FM := fnM 7 0 m_polys_product
noncomputable def m_polys_value : SM :=
  (mSeq (mDrop (mCall 1 0 F_polys_check_poly (mCons (mVar 0) mNil))) (mRet (mCall 1 0 F_values_greatest (mCons (mLc (mIter dEnumA (mCons (mVar 0) mNil)) (gmTup 2 (gmCons (gmName 2) (gmCons (gmName 3) gmNil))) mYes (mCall 2 0 F_values_plus (mCons (mVar 3) (mCons (mCall 2 0 F_values_times (mCons (mVar 1) (mCons (mVar 2) mNil))) mNil))) [2, 3]) mNil))))
noncomputable def F_polys_value : FM := fnM 4 0 m_polys_value
noncomputable def m_law_pick : SM :=
  (mRet (mOp oIx (mVar 1) (mCall 2 0 F_draw (mCons (mVar 0) (mCons (mCallB gLen (mCons (mVar 1) mNil)) mNil)))))
noncomputable def F_law_pick : FM := fnM 2 0 m_law_pick
noncomputable def m_law_same (R : FM) : SM :=
  (mSeq (mIf (mTst (mOp oIs (mVar 1) (mC .non))) (mRet (mOp oIs (mVar 0) (mC .non))) mSkip) (mSeq (mIf (mTst (mUn (oIsi "bool") (mVar 1))) (mRet (mAndV (mUn (oIsi "bool") (mVar 0)) (mOp oEq (mVar 0) (mVar 1)))) mSkip) (mSeq (mIf (mTst (mUn (oIsi "tuple") (mVar 1))) (mSeq (mIf (mOr (mNot (mTst (mUn (oIsi "tuple") (mVar 0)))) (mTst (mOp oNe (mCallB gLen (mCons (mVar 0) mNil)) (mCallB gLen (mCons (mVar 1) mNil))))) (mRet (mC (.bl false))) mSkip) (mRet (mCallB gAll (mCons (mLc (mIter dRange1 (mCons (mCallB gLen (mCons (mVar 1) mNil)) mNil)) (gmName 2) mYes (mCall 2 0 R (mCons (mOp oIx (mVar 0) (mVar 2)) (mCons (mOp oIx (mVar 1) (mVar 2)) mNil))) [2]) mNil)))) mSkip) (mSeq (mIf (mTst (mUn (oIsi "str") (mVar 1))) (mRet (mAndV (mUn (oIsi "str") (mVar 0)) (mOp oEq (mVar 0) (mVar 1)))) mSkip) (mRet (mAndV (mUn (oIsi "int") (mVar 0)) (mAndV (mNotV (mUn (oIsi "bool") (mVar 0))) (mOp oEq (mVar 0) (mVar 1)))))))))
noncomputable def F_law_same_n : Nat → FM
  | 0 => fun _ _ => none
  | n + 1 => fnM 3 0 (m_law_same (F_law_same_n n))
noncomputable def F_law_same : FM := F_law_same_n 7
noncomputable def m_law_frac : SM :=
  (mSeq (mPar2 2 3 (mCallB gAbs (mCons (mVar 0) mNil)) (mCallB gAbs (mCons (mVar 1) mNil))) (mSeq (mWhile (fun ρ _ => match ρ[3]? with | some (some (D.int o)) => o.toNat + 1 | _ => 0) (mTst (mOp oGt (mVar 3) (mC (.int 0)))) (mPar2 2 3 (mVar 3) (mOp oMod (mVar 2) (mVar 3)))) (mRet (mIfE (mTst (mOp oGt (mVar 1) (mC (.int 0)))) (mTup (mCons (mOp oDiv (mVar 0) (mVar 2)) (mCons (mOp oDiv (mVar 1) (mVar 2)) mNil))) (mTup (mCons (mOp oDiv (mUn oNeg (mVar 0)) (mVar 2)) (mCons (mOp oDiv (mUn oNeg (mVar 1)) (mVar 2)) mNil)))))))
noncomputable def F_law_frac : FM := fnM 4 0 m_law_frac
noncomputable def m_law_plus : SM :=
  (mSeq (mIf (mOr (mTst (mOp oIs (mVar 0) (mC .non))) (mTst (mOp oIs (mVar 1) (mC .non)))) (mRet (mC .non)) mSkip) (mRet (mCall 2 0 F_law_frac (mCons (mOp oAdd (mOp oMul (mOp oIx (mVar 0) (mC (.int 0))) (mOp oIx (mVar 1) (mC (.int 1)))) (mOp oMul (mOp oIx (mVar 1) (mC (.int 0))) (mOp oIx (mVar 0) (mC (.int 1))))) (mCons (mOp oMul (mOp oIx (mVar 0) (mC (.int 1))) (mOp oIx (mVar 1) (mC (.int 1)))) mNil)))))
noncomputable def F_law_plus : FM := fnM 2 0 m_law_plus
noncomputable def m_law_below : SM :=
  (mSeq (mIf (mOr (mTst (mOp oIs (mVar 0) (mC .non))) (mTst (mOp oIs (mVar 1) (mC .non)))) (mRet (mAndV (mOp oIs (mVar 0) (mC .non)) (mOp oIsNot (mVar 1) (mC .non)))) mSkip) (mRet (mOp oLt (mOp oMul (mOp oIx (mVar 0) (mC (.int 0))) (mOp oIx (mVar 1) (mC (.int 1)))) (mOp oMul (mOp oIx (mVar 1) (mC (.int 0))) (mOp oIx (mVar 0) (mC (.int 1)))))))
noncomputable def F_law_below : FM := fnM 2 0 m_law_below
noncomputable def m_law_top : SM :=
  (mSeq (mSet 1 (mC .non)) (mSeq (mFor (mIt (mVar 0)) (gmName 2) (mSet 1 (mIfE (mTst (mCall 2 0 F_law_below (mCons (mVar 1) (mCons (mVar 2) mNil)))) (mVar 2) (mVar 1)))) (mRet (mVar 1))))
noncomputable def F_law_top : FM := fnM 3 0 m_law_top
noncomputable def m_law_sum : SM :=
  (mSeq (mSet 1 (mTup (mCons (mC (.int 0)) (mCons (mC (.int 1)) mNil)))) (mSeq (mFor (mIt (mVar 0)) (gmName 2) (mSet 1 (mCall 2 0 F_law_plus (mCons (mVar 1) (mCons (mVar 2) mNil))))) (mRet (mVar 1))))
noncomputable def F_law_sum : FM := fnM 3 0 m_law_sum
noncomputable def m_law_number : SM :=
  (mRet (mCall 2 0 F_law_frac (mCons (mOp oSub (mCall 2 0 F_draw (mCons (mVar 0) (mCons (mC (.int 13)) mNil))) (mC (.int 6))) (mCons (mCall 2 0 F_law_pick (mCons (mVar 0) (mCons (mLst (mCons (mC (.int 1)) (mCons (mC (.int 1)) (mCons (mC (.int 2)) (mCons (mC (.int 3)) mNil))))) mNil))) mNil))))
noncomputable def F_law_number : FM := fnM 1 0 m_law_number
end FL.L
set_option maxRecDepth 100000
set_option maxHeartbeats 4000000
noncomputable section
namespace FL.L
open PySem PySem.Spec PyProof.Rows L2 FL
theorem is_integer_ev (i : Int) (t : Tape) : F_ratios_is_integer [.int i] t = some (.bl true, t) := by
  simp! [F_ratios_is_integer, m_ratios_is_integer]
theorem gcd_go {a b : Nat} (h : 0 < b) : Nat.gcd b (a % b) = Nat.gcd a b := by
  rw [Nat.gcd_comm b, ← Nat.gcd_rec, Nat.gcd_comm]
theorem while_gcd (t : Tape) : ∀ (n a b : Nat), b < n → whileN (mTst (mOp oGt (mVar 1) (mC (.int 0)))) (mPar2 0 1 (mVar 1) (mOp oMod (mVar 0) (mVar 1))) n [some (.int a), some (.int b)] t = some (.nx [some (.int (Nat.gcd a b)), some (.int 0)] t)
  | 0, a, b, h => absurd h (Nat.not_lt_zero _)
  | n + 1, a, b, h => by
    unfold whileN
    by_cases hb : b = 0
    · subst hb
      simp! [Nat.gcd_zero_right]
    · have h0 : (0 : Int) < b := by omega
      simp! [h0, oMod_int h0]
      have := while_gcd t n b (a % b) (Nat.lt_of_lt_of_le (Nat.mod_lt _ (by omega)) (by omega))
      rw [gcd_go (by omega)] at this
      exact this
theorem divisor_ev (a b : Int) (t : Tape) : F_ratios_divisor [.int a, .int b] t = some (.int (Nat.gcd a.natAbs b.natAbs), t) := by
  have ha : (if a < 0 then -a else a) = (a.natAbs : Nat) := by split <;> omega
  have hb : (if b < 0 then -b else b) = (b.natAbs : Nat) := by split <;> omega
  simp! [F_ratios_divisor, m_ratios_divisor, ha, hb, mWhile]
  rw [while_gcd _ _ _ _ (by omega)]
  rfl
/-- the fractions of the program -/
def rD (q : Rat) : D := .tup [.int q.num, .int q.den]
def vD : Option Rat → D
  | none => .non
  | some q => rD q
/-- not too great for the operators -/
def R0 (q : Rat) : Prop := q.num.natAbs < 2 ^ 1900 ∧ q.den < 2 ^ 1900
theorem R0.smn {q : Rat} (h : R0 q) : Sm q.num := Nat.lt_of_lt_of_le h.1 (Nat.pow_le_pow_right (by decide) (by decide))
theorem R0.smd {q : Rat} (h : R0 q) : Sm (q.den : Int) := by
  have := h.2
  unfold Sm
  rw [Int.natAbs_natCast]
  exact Nat.lt_of_lt_of_le this (Nat.pow_le_pow_right (by decide) (by decide))
theorem is_ratio_ev (q : Rat) (t : Tape) : F_ratios_is_ratio [rD q] t = some (.bl true, t) := by
  have hd : (0 : Int) < q.den := by have := q.den_pos; omega
  have hg : Nat.gcd q.num.natAbs q.den = 1 := q.reduced
  simp! [F_ratios_is_ratio, m_ratios_is_ratio, rD, gAll, mLc, lcL, is_integer_ev, bls, divisor_ev, hd, Int.natAbs_natCast, hg]

theorem two_pow_le {a b : Nat} (h : a ≤ b) : 2 ^ a ≤ 2 ^ b := Nat.pow_le_pow_right (by decide) h
theorem make_ev (a : Int) (b : Nat) (hb : b ≠ 0) (hs : Sm (b : Int)) (t : Tape) : F_ratios_make [.int a, .int b] t = some (rD (Rat.normalize a b hb), t) := by
  have hb0 : ¬ ((b : Int) = 0) := by omega
  have hb1 : ¬ ((b : Int) < 0) := by omega
  have hg0 : (0 : Int) < ((Nat.gcd a.natAbs b : Nat) : Int) := by
    have := Nat.gcd_pos_of_pos_right a.natAbs (show 0 < b by omega); omega
  have hg1 : Sm ((Nat.gcd a.natAbs b : Nat) : Int) := by
    have h1 := Nat.gcd_le_right a.natAbs (show 0 < b by omega)
    unfold Sm at hs ⊢
    rw [Int.natAbs_natCast] at hs ⊢
    exact Nat.lt_of_le_of_lt h1 hs
  simp! [F_ratios_make, m_ratios_make, hb0, hb1, divisor_ev, Int.natAbs_natCast, oDiv_int hg0 hg1]
  rw [Rat.normalize_eq]
  simp only [rD, Int.natCast_ediv]
theorem smd2 {a b : Rat} (ha : R0 a) (hb : R0 b) : Sm ((a.den : Int) * b.den) := by
  unfold Sm
  rw [Int.natAbs_mul, Int.natAbs_natCast, Int.natAbs_natCast]
  exact Nat.lt_of_lt_of_le (Nat.mul_lt_mul'' ha.2 hb.2) (by rw [← Nat.pow_add]; exact two_pow_le (by decide))
theorem add_ev {a b : Rat} (ha : R0 a) (hb : R0 b) (t : Tape) : F_ratios_add [rD a, rD b] t = some (rD (a + b), t) := by
  have hs := smd2 ha hb
  rw [← Int.natCast_mul] at hs
  simp! [F_ratios_add, m_ratios_add, rD, oMul_int ha.smn hb.smd, oMul_int hb.smn ha.smd, oMul_int ha.smd hb.smd]
  rw [← Int.natCast_mul, make_ev _ _ (Nat.mul_ne_zero a.den_nz b.den_nz) hs, ← Rat.add_def]
  simp! [rD]
theorem multiply_ev {a b : Rat} (ha : R0 a) (hb : R0 b) (t : Tape) : F_ratios_multiply [rD a, rD b] t = some (rD (a * b), t) := by
  have hs := smd2 ha hb
  rw [← Int.natCast_mul] at hs
  simp! [F_ratios_multiply, m_ratios_multiply, rD, oMul_int ha.smn hb.smn, oMul_int ha.smd hb.smd]
  rw [← Int.natCast_mul, make_ev _ _ (Nat.mul_ne_zero a.den_nz b.den_nz) hs, ← Rat.mul_def]
  simp! [rD]
theorem less_ev {a b : Rat} (ha : R0 a) (hb : R0 b) (t : Tape) : F_ratios_less [rD a, rD b] t = some (.bl (decide (a < b)), t) := by
  simp! [F_ratios_less, m_ratios_less, rD, oMul_int ha.smn hb.smd, oMul_int hb.smn ha.smd, Rat.lt_iff]
/-! values: fractions, or none -/
def V0 (v : Option Rat) : Prop := ∀ q, v = some q → R0 q
def vless : Option Rat → Option Rat → Bool
  | none, none => false
  | none, some _ => true
  | some _, none => false
  | some a, some b => decide (a < b)
def vmax (a b : Option Rat) : Option Rat := if vless a b then b else a
def vplus : Option Rat → Option Rat → Option Rat
  | some a, some b => some (a + b)
  | _, _ => none
theorem V0.some {q : Rat} (h : R0 q) : V0 (some q) := fun p e => by cases e; exact h
theorem V0.none : V0 none := fun p e => by cases e
theorem V0.of {q : Rat} (h : V0 (Option.some q)) : R0 q := h q rfl
theorem isN_vD (v : Option Rat) : isN (vD v) = v.isNone := by cases v <;> rfl
theorem pln_vD (v : Option Rat) : pln 9 (vD v) = true := by cases v <;> rfl
theorem pln_rD (v : Rat) : pln 9 (rD v) = true := rfl
theorem is_value_ev (v : Option Rat) (t : Tape) : F_values_is_value [vD v] t = some (.bl true, t) := by
  cases v with
  | none => simp! [F_values_is_value, m_values_is_value, vD]
  | some q =>
    have := is_ratio_ev q t
    simp only [rD] at this
    simp! [F_values_is_value, m_values_is_value, vD, rD, this]
theorem is_less_ev {a b : Option Rat} (ha : V0 a) (hb : V0 b) (t : Tape) : F_values_is_less [vD a, vD b] t = some (.bl (vless a b), t) := by
  cases a with
  | none => cases b <;> simp! [F_values_is_less, m_values_is_less, vD, isN_vD, rD, vless]
  | some a =>
    cases b with
    | none => simp! [F_values_is_less, m_values_is_less, vD, rD, vless]
    | some b =>
      have := less_ev ha.of hb.of t
      simp only [rD] at this
      simp! [F_values_is_less, m_values_is_less, vD, rD, vless, this]
theorem greater_ev {a b : Option Rat} (ha : V0 a) (hb : V0 b) (t : Tape) : F_values_greater [vD a, vD b] t = some (vD (vmax a b), t) := by
  simp! [F_values_greater, m_values_greater, is_less_ev ha hb, vmax]
  cases vless a b <;> simp! []
theorem vmax_V0 {a b : Option Rat} (ha : V0 a) (hb : V0 b) : V0 (vmax a b) := by
  unfold vmax; split
  · exact hb
  · exact ha
def vmaxL (x : Option Rat) (l : List (Option Rat)) : Option Rat := l.foldl vmax x
theorem forL_greatest (t : Tape) : ∀ (l : List (Option Rat)) (x : Option Rat) (a : Option D) (c : Option D), V0 x → (∀ v ∈ l, V0 v) → ∃ c', forL (gmName 2) (mSet 1 (mCall 2 0 F_values_greater (mCons (mVar 1) (mCons (mVar 2) mNil)))) (l.map vD) [a, some (vD x), c] t = some (.nx [a, some (vD (vmaxL x l)), c'] t)
  | [], x, a, c, _, _ => ⟨c, rfl⟩
  | v :: l, x, a, c, hx, hl => by
    have hv := hl v List.mem_cons_self
    obtain ⟨c', h⟩ := forL_greatest t l (vmax x v) a (some (vD v)) (vmax_V0 hx hv) fun u hu => hl u (List.mem_cons_of_mem _ hu)
    refine ⟨c', ?_⟩
    simp! [forL, greater_ev hx hv, pln_vD]
    exact h
theorem greatest_ev {l : List (Option Rat)} (hl : ∀ v ∈ l, V0 v) (t : Tape) : F_values_greatest [.tup (l.map vD)] t = some (vD (vmaxL none l), t) := by
  obtain ⟨c', h⟩ := forL_greatest t l none (some (.tup (l.map vD))) none V0.none hl
  simp! [F_values_greatest, m_values_greatest, mFor]
  simp only [vD] at h ⊢
  rw [h]
  simp! []
theorem greatest_evL {l : List (Option Rat)} (hl : ∀ v ∈ l, V0 v) (t : Tape) : F_values_greatest [.lst (l.map vD)] t = some (vD (vmaxL none l), t) := by
  obtain ⟨c', h⟩ := forL_greatest t l none (some (.lst (l.map vD))) none V0.none hl
  simp! [F_values_greatest, m_values_greatest, mFor]
  simp only [vD] at h ⊢
  rw [h]
  simp! []
theorem plus_ev {a b : Option Rat} (ha : V0 a) (hb : V0 b) (t : Tape) : F_values_plus [vD a, vD b] t = some (vD (vplus a b), t) := by
  cases a with
  | none => cases b <;> simp! [F_values_plus, m_values_plus, vD, isN_vD, rD, vplus]
  | some a =>
    cases b with
    | none => simp! [F_values_plus, m_values_plus, vD, rD, vplus]
    | some b =>
      have := add_ev ha.of hb.of t
      simp only [rD] at this
      simp! [F_values_plus, m_values_plus, vD, rD, vplus, this]

def vtimes (v : Option Rat) (n : Int) : Option Rat := if n = 0 then some 0 else v.map (· * (n : Rat))
theorem R0.int {n : Int} (h : n.natAbs < 2 ^ 200) : R0 (n : Rat) := ⟨Nat.lt_of_lt_of_le h (two_pow_le (by decide)), by
  show 1 < _
  exact Nat.one_lt_two_pow (by decide)⟩
theorem times_ev {v : Option Rat} (hv : V0 v) {n : Int} (hn : n.natAbs < 2 ^ 200) (t : Tape) : F_values_times [vD v, .int n] t = some (vD (vtimes v n), t) := by
  by_cases h0 : n = 0
  · subst h0
    simp! [F_values_times, m_values_times, vtimes, d_ratios_ZERO, vD, rD]
    rfl
  · cases v with
    | none => simp! [F_values_times, m_values_times, vtimes, vD, h0]
    | some q =>
      have := multiply_ev hv.of (R0.int hn) t
      have e : rD (n : Rat) = .tup [.int n, .int 1] := rfl
      rw [e] at this
      simp only [rD] at this
      simp! [F_values_times, m_values_times, vtimes, vD, h0, rD, this]
/-! the law's own -/
theorem while_gcd2 (t : Tape) (x y : Option D) : ∀ (n a b : Nat), b < n → whileN (mTst (mOp oGt (mVar 3) (mC (.int 0)))) (mPar2 2 3 (mVar 3) (mOp oMod (mVar 2) (mVar 3))) n [x, y, some (.int a), some (.int b)] t = some (.nx [x, y, some (.int (Nat.gcd a b)), some (.int 0)] t)
  | 0, a, b, h => absurd h (Nat.not_lt_zero _)
  | n + 1, a, b, h => by
    unfold whileN
    by_cases hb : b = 0
    · subst hb
      simp! [Nat.gcd_zero_right]
    · have h0 : (0 : Int) < b := by omega
      simp! [h0, oMod_int h0]
      have := while_gcd2 t x y n b (a % b) (Nat.lt_of_lt_of_le (Nat.mod_lt _ (by omega)) (by omega))
      rw [gcd_go (by omega)] at this
      exact this
theorem law_frac_ev (a : Int) (b : Nat) (hb : b ≠ 0) (hs : Sm (b : Int)) (t : Tape) : F_law_frac [.int a, .int b] t = some (rD (Rat.normalize a b hb), t) := by
  have hb0 : (0 : Int) < b := by omega
  have hg0 : (0 : Int) < ((Nat.gcd a.natAbs b : Nat) : Int) := by
    have := Nat.gcd_pos_of_pos_right a.natAbs (show 0 < b by omega); omega
  have hg1 : Sm ((Nat.gcd a.natAbs b : Nat) : Int) := by
    have h1 := Nat.gcd_le_right a.natAbs (show 0 < b by omega)
    unfold Sm at hs ⊢
    rw [Int.natAbs_natCast] at hs ⊢
    exact Nat.lt_of_le_of_lt h1 hs
  have e1 : (if a < 0 then -a else a) = (a.natAbs : Nat) := by split <;> omega
  have e2 : (if (b : Int) < 0 then -(b : Int) else (b : Int)) = (b : Nat) := by split <;> omega
  simp! [F_law_frac, m_law_frac, e1, e2, mWhile]
  rw [while_gcd2 _ _ _ _ _ _ (by omega)]
  simp! [hb0, oDiv_int hg0 hg1]
  rw [Rat.normalize_eq]
  simp only [rD, Int.natCast_ediv]
theorem law_plus_ev {a b : Option Rat} (ha : V0 a) (hb : V0 b) (t : Tape) : F_law_plus [vD a, vD b] t = some (vD (vplus a b), t) := by
  cases a with
  | none => cases b <;> simp! [F_law_plus, m_law_plus, vD, rD, vplus]
  | some a =>
    cases b with
    | none => simp! [F_law_plus, m_law_plus, vD, rD, vplus]
    | some b =>
      have hs := smd2 ha.of hb.of
      rw [← Int.natCast_mul] at hs
      simp! [F_law_plus, m_law_plus, vD, rD, vplus, oMul_int ha.of.smn hb.of.smd, oMul_int hb.of.smn ha.of.smd, oMul_int ha.of.smd hb.of.smd]
      rw [← Int.natCast_mul, law_frac_ev _ _ (Nat.mul_ne_zero a.den_nz b.den_nz) hs, ← Rat.add_def]
      simp! [rD]
theorem law_below_ev {a b : Option Rat} (ha : V0 a) (hb : V0 b) (t : Tape) : F_law_below [vD a, vD b] t = some (.bl (vless a b), t) := by
  cases a with
  | none => cases b <;> simp! [F_law_below, m_law_below, vD, isN_vD, rD, vless]
  | some a =>
    cases b with
    | none => simp! [F_law_below, m_law_below, vD, rD, vless]
    | some b => simp! [F_law_below, m_law_below, vD, rD, vless, oMul_int ha.of.smn hb.of.smd, oMul_int hb.of.smn ha.of.smd, Rat.lt_iff]
theorem forL_top (t : Tape) : ∀ (l : List (Option Rat)) (x : Option Rat) (a : Option D) (c : Option D), V0 x → (∀ v ∈ l, V0 v) → ∃ c', forL (gmName 2) (mSet 1 (mIfE (mTst (mCall 2 0 F_law_below (mCons (mVar 1) (mCons (mVar 2) mNil)))) (mVar 2) (mVar 1))) (l.map vD) [a, some (vD x), c] t = some (.nx [a, some (vD (vmaxL x l)), c'] t)
  | [], x, a, c, _, _ => ⟨c, rfl⟩
  | v :: l, x, a, c, hx, hl => by
    have hv := hl v List.mem_cons_self
    obtain ⟨c', h⟩ := forL_top t l (vmax x v) a (some (vD v)) (vmax_V0 hx hv) fun u hu => hl u (List.mem_cons_of_mem _ hu)
    refine ⟨c', ?_⟩
    simp! [forL, law_below_ev hx hv]
    refine Eq.trans ?_ h
    unfold vmax
    cases vless x v <;> simp! []
theorem law_top_ev {l : List (Option Rat)} (hl : ∀ v ∈ l, V0 v) (t : Tape) : F_law_top [.tup (l.map vD)] t = some (vD (vmaxL none l), t) := by
  obtain ⟨c', h⟩ := forL_top t l none (some (.tup (l.map vD))) none V0.none hl
  simp! [F_law_top, m_law_top, mFor]
  simp only [vD] at h ⊢
  rw [h]
  simp! []
/-! sums, of a lattice -/
def vsumL (x : Option Rat) (l : List (Option Rat)) : Option Rat := l.foldl vplus x
/-- in the lattice of the d-th parts, at most N -/
theorem mul_den (q : Rat) : q * (q.den : Rat) = q.num := by
  have hd : ((q.den : Nat) : Rat) ≠ 0 := by simpa using q.den_nz
  have e := Rat.mkRat_self q
  rw [Rat.mkRat_eq_div] at e
  have e2 : (q.num : Rat) / (q.den : Rat) * (q.den : Rat) = q.num := Rat.div_mul_cancel hd
  rw [e] at e2
  exact e2
def Bd (d N : Nat) (q : Rat) : Prop := q.den ∣ d ∧ q.num.natAbs ≤ N * q.den
theorem Bd.r0 {d N : Nat} {q : Rat} (h : Bd d N q) (hd : 0 < d) (h2 : d < 2 ^ 200) (h3 : N < 2 ^ 200) : R0 q := by
  have h4 := Nat.le_of_dvd hd h.1
  have h5 : q.den < 2 ^ 200 := Nat.lt_of_le_of_lt h4 h2
  refine ⟨Nat.lt_of_le_of_lt h.2 (Nat.lt_of_lt_of_le (Nat.mul_lt_mul'' h3 h5) ?_), Nat.lt_of_lt_of_le h5 (two_pow_le (by decide))⟩
  rw [← Nat.pow_add]; exact two_pow_le (by decide)
theorem Bd.mono {d N M : Nat} {q : Rat} (h : Bd d N q) (hm : N ≤ M) : Bd d M q := ⟨h.1, Nat.le_trans h.2 (Nat.mul_le_mul_right _ hm)⟩
theorem Bd.abs {d N : Nat} {q : Rat} : q.num.natAbs ≤ N * q.den ↔ (-(N : Rat) ≤ q ∧ q ≤ N) := by
  have e1 : ((N : Nat) : Rat).num = N := rfl
  have e2 : ((N : Nat) : Rat).den = 1 := rfl
  have e3 : (-((N : Nat) : Rat)).num = -N := rfl
  have e4 : (-((N : Nat) : Rat)).den = 1 := rfl
  rw [Rat.le_iff, Rat.le_iff, e1, e2, e3, e4]
  constructor
  · intro h
    constructor
    · have : (N * q.den : Int) = ((N * q.den : Nat) : Int) := by simp
      rw [Int.neg_mul, this]; omega
    · have : (N * q.den : Int) = ((N * q.den : Nat) : Int) := by simp
      rw [this]; omega
  · rintro ⟨h1, h2⟩
    have : (N * q.den : Int) = ((N * q.den : Nat) : Int) := by simp
    rw [Int.neg_mul, this] at h1
    rw [this] at h2
    omega
theorem norm_den_dvd (a : Int) (b : Nat) (h : b ≠ 0) : (Rat.normalize a b h).den ∣ b := by
  rw [Rat.normalize_eq]; exact Nat.div_dvd_of_dvd (Nat.gcd_dvd_right _ _)
/-- a / d -/
theorem den_dvd_iff {d : Nat} (hd : d ≠ 0) {q : Rat} : q.den ∣ d ↔ ∃ z : Int, q * d = z := by
  constructor
  · rintro ⟨k, e⟩
    refine ⟨q.num * k, ?_⟩
    rw [e, Rat.natCast_mul, ← Rat.mul_assoc, mul_den, Rat.intCast_mul]
    rfl
  · rintro ⟨z, e⟩
    have hd' : (d : Rat) ≠ 0 := by simpa using hd
    have : q = mkRat z d := by
      rw [Rat.mkRat_eq_div, ← e, Rat.mul_div_cancel hd']
    rw [this]
    unfold mkRat
    rw [dif_neg hd]
    exact norm_den_dvd z d hd
theorem Bd.add {d N M : Nat} (hd : d ≠ 0) {a b : Rat} (ha : Bd d N a) (hb : Bd d M b) : Bd d (N + M) (a + b) := by
  refine ⟨?_, ?_⟩
  · obtain ⟨x, hx⟩ := (den_dvd_iff hd).mp ha.1
    obtain ⟨y, hy⟩ := (den_dvd_iff hd).mp hb.1
    exact (den_dvd_iff hd).mpr ⟨x + y, by rw [Rat.add_mul, hx, hy, Rat.intCast_add]⟩
  · obtain ⟨h1, h2⟩ := (Bd.abs (d := d)).mp ha.2
    obtain ⟨h3, h4⟩ := (Bd.abs (d := d)).mp hb.2
    refine (Bd.abs (d := d)).mpr ?_
    rw [Rat.natCast_add]
    constructor <;> grind
theorem Bd.neg {d N : Nat} {a : Rat} (ha : Bd d N a) : Bd d N (-a) := by
  refine ⟨by rw [Rat.neg_den]; exact ha.1, ?_⟩
  rw [Rat.neg_num, Rat.neg_den, Int.natAbs_neg]; exact ha.2
theorem Bd.zero {d N : Nat} : Bd d N 0 := ⟨Nat.one_dvd _, Nat.zero_le _⟩
end FL.L
set_option maxRecDepth 100000
set_option maxHeartbeats 400000
noncomputable section
namespace FL
open PySem PySem.Spec PyProof.Rows L2 FL
/-! loops and comprehensions, plainly -/
section
variable {α β : Type} {g : GM} {c : BM} {e : EM} {ρ : Env} {sm : SM}
theorem lcL_filter {t : Tape} (l : List α) (φ ψ : α → D) (p : α → Bool) (h : ∀ a ∈ l, ∃ ρ1, g (φ a) ρ = some ρ1 ∧ c ρ1 t = some (p a, t) ∧ (p a = true → e ρ1 t = some (ψ a, t))) : lcL g c e ρ (l.map φ) t = some ((l.filter p).map ψ, t) := by
  induction l with
  | nil => rfl
  | cons a l ih =>
    obtain ⟨ρ1, h1, h2, h3⟩ := h a List.mem_cons_self
    have ih := ih fun b hb => h b (List.mem_cons_of_mem _ hb)
    simp only [List.map_cons, lcL, h1, Option.bind_some, h2]
    by_cases hp : p a = true
    · rw [if_pos hp, h3 hp, List.filter_cons_of_pos hp]
      simp only [Option.bind_some, ih, Option.map_some, List.map_cons]
    · rw [if_neg hp, List.filter_cons_of_neg hp, ih]
theorem lcL_map {t : Tape} (l : List α) (φ ψ : α → D) (h : ∀ a ∈ l, ∃ ρ1, g (φ a) ρ = some ρ1 ∧ c ρ1 t = some (true, t) ∧ e ρ1 t = some (ψ a, t)) : lcL g c e ρ (l.map φ) t = some (l.map ψ, t) := by
  have := lcL_filter (t := t) (g := g) (c := c) (e := e) (ρ := ρ) l φ ψ (fun _ => true) fun a ha => by
    obtain ⟨ρ1, h1, h2, h3⟩ := h a ha
    exact ⟨ρ1, h1, h2, fun _ => h3⟩
  rw [this]
  congr 3
  exact List.filter_eq_self.mpr fun _ _ => rfl
/-- with draws -/
theorem lcL_draw (l : List α) (φ : α → D) (ψ : β → D) (S : α → β → Prop) (h : ∀ a ∈ l, ∀ t, TOk t → ∃ ρ1 b t', g (φ a) ρ = some ρ1 ∧ c ρ1 t = some (true, t) ∧ e ρ1 t = some (ψ b, t') ∧ TOk t' ∧ S a b) : ∀ t, TOk t → ∃ (bs : List β) (t' : Tape), lcL g c e ρ (l.map φ) t = some (bs.map ψ, t') ∧ TOk t' ∧ bs.length = l.length ∧ ∀ (i : Nat) (a : α) (b : β), l[i]? = some a → bs[i]? = some b → S a b := by
  induction l with
  | nil => exact fun t ht => ⟨[], t, rfl, ht, rfl, fun i a b h => by simp at h⟩
  | cons a l ih =>
    intro t ht
    obtain ⟨ρ1, b, t1, h1, h2, h3, h4, h5⟩ := h a List.mem_cons_self t ht
    obtain ⟨bs, t', k1, k2, k3, k4⟩ := ih (fun b hb => h b (List.mem_cons_of_mem _ hb)) t1 h4
    refine ⟨b :: bs, t', ?_, k2, by simp [k3], fun i x y hx hy => ?_⟩
    · simp only [List.map_cons, lcL, h1, Option.bind_some, h2, if_true, h3, k1, Option.map_some]
    · cases i with
      | zero => simp at hx hy; subst hx; subst hy; exact h5
      | succ i => exact k4 i x y (by simpa using hx) (by simpa using hy)
/-- an invariant through a loop -/
theorem forL_run (P : List D → Env → Tape → Prop) (h : ∀ d ds ρ t, P (d :: ds) ρ t → ∃ ρ1 o, g d ρ = some ρ1 ∧ sm ρ1 t = some o ∧ ∃ ρ' t', (o = .nx ρ' t' ∨ o = .ct ρ' t') ∧ P ds ρ' t') : ∀ ds ρ t, P ds ρ t → ∃ ρ' t', forL g sm ds ρ t = some (.nx ρ' t') ∧ P [] ρ' t'
  | [], ρ, t, p => ⟨ρ, t, rfl, p⟩
  | d :: ds, ρ, t, p => by
    obtain ⟨ρ1, o, h1, h2, ρ', t', h3, h4⟩ := h d ds ρ t p
    obtain ⟨ρ2, t2, k1, k2⟩ := forL_run P h ds ρ' t' h4
    refine ⟨ρ2, t2, ?_, k2⟩
    simp only [forL, h1, Option.bind_some, h2]
    rcases h3 with rfl | rfl <;> exact k1
/-- by the items done -/
theorem forL_at (ds : List D) (P : Nat → Env → Tape → Prop) (h : ∀ i d ρ t, ds[i]? = some d → P i ρ t → ∃ ρ1 o, g d ρ = some ρ1 ∧ sm ρ1 t = some o ∧ ∃ ρ' t', (o = .nx ρ' t' ∨ o = .ct ρ' t') ∧ P (i + 1) ρ' t') {ρ : Env} {t : Tape} (h0 : P 0 ρ t) : ∃ ρ' t', forL g sm ds ρ t = some (.nx ρ' t') ∧ P ds.length ρ' t' := by
  obtain ⟨ρ', t', h1, i, h2, h3⟩ := forL_run (g := g) (sm := sm) (fun r ρ t => ∃ i, ds.drop i = r ∧ i ≤ ds.length ∧ P i ρ t) (fun d r ρ t ⟨i, e, hi, p⟩ => by
    have hlt : i < ds.length := by
      by_cases z : i < ds.length
      · exact z
      · rw [List.drop_eq_nil_of_le (by omega)] at e; cases e
    rw [List.drop_eq_getElem_cons hlt] at e
    injection e with e1 e2
    obtain ⟨ρ1, o, k1, k2, ρ', t', k3, k4⟩ := h i d ρ t (by rw [List.getElem?_eq_getElem hlt, e1]) p
    exact ⟨ρ1, o, k1, k2, ρ', t', k3, i + 1, e2, hlt, k4⟩) ds ρ t ⟨0, rfl, Nat.zero_le _, h0⟩
  refine ⟨ρ', t', h1, ?_⟩
  have : ds.length ≤ i := by simpa using h2
  have e : i = ds.length := by omega
  rw [← e]; exact h3.2
end
theorem mSeq_nx {m1 m2 : SM} {ρ ρ' : Env} {t t' : Tape} (h : m1 ρ t = some (.nx ρ' t')) : mSeq m1 m2 ρ t = m2 ρ' t' := by unfold mSeq; rw [h]; rfl
theorem mSeq_rt {m1 m2 : SM} {ρ : Env} {t t' : Tape} {d : D} (h : m1 ρ t = some (.rt d t')) : mSeq m1 m2 ρ t = some (.rt d t') := by unfold mSeq; rw [h]; rfl
theorem mIf_t {c : BM} {m1 m2 : SM} {ρ : Env} {t t' : Tape} (h : c ρ t = some (true, t')) : mIf c m1 m2 ρ t = m1 ρ t' := by unfold mIf; rw [h]; rfl
theorem mIf_f {c : BM} {m1 m2 : SM} {ρ : Env} {t t' : Tape} (h : c ρ t = some (false, t')) : mIf c m1 m2 ρ t = m2 ρ t' := by unfold mIf; rw [h]; rfl
theorem mSeqIf_f {c : BM} {m1 m2 : SM} {ρ : Env} {t t' : Tape} (h : c ρ t = some (false, t')) : mSeq (mIf c m1 mSkip) m2 ρ t = m2 ρ t' := mSeq_nx (mIf_f h)
theorem mSeqIf_t {c : BM} {m0 m1 m2 : SM} {ρ : Env} {t t' t2 : Tape} {d : D} (h : c ρ t = some (true, t')) (h1 : m1 ρ t' = some (.rt d t2)) : mSeq (mIf c m1 m0) m2 ρ t = some (.rt d t2) := mSeq_rt ((mIf_t h).trans h1)
theorem mRet_of {m : EM} {ρ : Env} {t t' : Tape} {d : D} (h : m ρ t = some (d, t')) : mRet m ρ t = some (.rt d t') := by unfold mRet; rw [h]; rfl
theorem mSet_of {i : Nat} {m : EM} {ρ : Env} {t t' : Tape} {d : D} (h : m ρ t = some (d, t')) : mSet i m ρ t = some (.nx (ρ.set i (some d)) t') := by unfold mSet; rw [h]; rfl
theorem mDrop_of {m : EM} {ρ : Env} {t t' : Tape} {d : D} (h : m ρ t = some (d, t')) : mDrop m ρ t = some (.nx ρ t') := by unfold mDrop; rw [h]; rfl
theorem mFor_of {mi : IM} {g : GM} {sm : SM} {ρ : Env} {t t' : Tape} {ds : List D} (h : mi ρ t = some (ds, t')) : mFor mi g sm ρ t = forL g sm ds ρ t' := by unfold mFor; rw [h]; rfl
theorem fnM_rt {N lv : Nat} {m : SM} {ds : List D} {t t' : Tape} {d : D} (h : m (ds.map some ++ List.replicate (N - ds.length) none) t = some (.rt d t')) : fnM N lv m ds t = some (d, t') := by unfold fnM; rw [h]; rfl
theorem fnM_nx {N : Nat} {m : SM} {ds : List D} {t t' : Tape} {ρ : Env} (h : m (ds.map some ++ List.replicate (N - ds.length) none) t = some (.nx ρ t')) : fnM N 0 m ds t = some (.non, t') := by unfold fnM; rw [h]; rfl
theorem mCall_of {n lv : Nat} {f : FM} {ma : AM} {ρ : Env} {t t1 t' : Tape} {ds : List D} {d : D} (h : ma ρ t = some (ds, t1)) (hl : ds.length = n) (hf : f ds t1 = some (d, t')) (hp : plnL lv d = true) : mCall n lv f ma ρ t = some (d, t') := by
  unfold mCall; rw [h]; simp only [Option.bind_some, hl, if_true, hf, hp]
theorem range1 {n : Nat} (h : n < 2 ^ 62) : dRange1 [.int (n : Int)] = some ((List.range n).map fun (i : Nat) => D.int i) := by
  simp only [dRange1, big_of (i := (n : Int)) (by omega) (by omega), if_true, Int.toNat_natCast]
  congr 2
  funext i
  rw [Int.zero_add]
end FL
namespace FL.L
open PySem PySem.Spec PyProof.Rows L2 FL
/-- plain data of depth below n -/
def okS : Nat → D → Bool
  | 0, _ => false
  | n + 1, .tup l => small l && l.all (okS n)
  | _ + 1, .lst _ => false
  | _ + 1, .tape => false
  | _ + 1, .str x => PyData.strOk x
  | _ + 1, _ => true
theorem law_same_tup (R : FM) (l : List D) (t : Tape) (hl : l.length ≤ 100000) (ih : ∀ d ∈ l, R [d, d] t = some (.bl true, t)) : fnM 3 0 (m_law_same R) [.tup l, .tup l] t = some (.bl true, t) := by
  have hr := range1 (n := l.length) (by omega)
  have key : lcL (gmName 2) mYes (mCall 2 0 (R) (mCons (mOp oIx (mVar 0) (mVar 2)) (mCons (mOp oIx (mVar 1) (mVar 2)) mNil))) [some (.tup l), some (.tup l), none] ((List.range l.length).map fun (i : Nat) => D.int i) t = some ((List.range l.length).map fun _ => D.bl true, t) := by
    refine lcL_map _ _ _ fun i hi => ?_
    have hi' : i < l.length := List.mem_range.mp hi
    have hx : oIx (.tup l) (.int i) = some l[i] := oIx_tup (by omega) (by rw [Int.toNat_natCast, List.getElem?_eq_getElem hi'])
    have hs := ih l[i] (List.getElem_mem hi')
    refine ⟨_, rfl, rfl, ?_⟩
    simp! [hx, hs]
  have hb : bls ((List.range l.length).map fun _ => D.bl true) = some ((List.range l.length).map fun _ => true) := by
    have := bls_map ((List.range l.length).map fun _ => true)
    rw [List.map_map] at this
    exact this
  have hsm : small ((List.range l.length).map fun _ => D.bl true) = true := small_of (by simpa using hl)
  have e : oNe (.int l.length) (.int l.length) = some (.bl false) := by rw [oNe_int, decide_eq_true rfl]; rfl
  have c3 : mOr (mNot (mTst (mUn (oIsi "tuple") (mVar 0)))) (mTst (mOp oNe (mCallB gLen (mCons (mVar 0) mNil)) (mCallB gLen (mCons (mVar 1) mNil)))) [some (.tup l), some (.tup l), none] t = some (false, t) := by
    simp only [mOr, mNot, mTst, mUn, mVar, List.getElem?_cons_zero, List.getElem?_cons_succ, Option.bind_some, isi_tuple_tup, Option.map_some, Bool.not_true, Bool.false_eq_true, if_false, mOp, mCallB, mCons, mNil, gLen, e]
  refine fnM_rt ?_
  unfold m_law_same
  refine (mSeqIf_f (t' := t) rfl).trans ?_
  refine (mSeqIf_f (t' := t) (by simp! [])).trans ?_
  refine mSeqIf_t (t' := t) (by simp! []) ?_
  refine (mSeqIf_f c3).trans (mRet_of ?_)
  simp! [mLc, hr, key, hl, gAll, hb]
  simp
theorem law_same_n (n : Nat) : ∀ (d : D) (t : Tape), okS n d = true → F_law_same_n n [d, d] t = some (.bl true, t) := by
  induction n with
  | zero => intro d t h; cases h
  | succ n ih =>
    intro d t h
    cases d with
    | non => simp! [F_law_same_n, m_law_same]
    | bl b =>
      have e : oEq (.bl b) (.bl b) = some (.bl true) := by cases b <;> rfl
      simp! [F_law_same_n, m_law_same, e]
    | int i => simp! [F_law_same_n, m_law_same]
    | str x =>
      have h1 : shp dep (.str x) = true := h
      have e : oEq (.str x) (.str x) = some (.bl true) := by
        unfold oEq
        rw [h1]
        show some (D.bl (x == x)) = _
        simp
      simp! [F_law_same_n, m_law_same, e]
    | tup l =>
      have h' : (small l && l.all (okS n)) = true := h
      rw [Bool.and_eq_true] at h'
      exact law_same_tup _ l t (of_sml h'.1) fun d hd => ih d t (List.all_eq_true.mp h'.2 d hd)
    | lst l => cases h
    | tape => cases h
theorem law_same_ev {d : D} (h : okS 7 d = true) (t : Tape) : F_law_same [d, d] t = some (.bl true, t) := law_same_n 7 d t h
theorem okS_rD (n : Nat) (q : Rat) : okS (n + 2) (rD q) = true := by
  show (small _ && _) = true
  rw [small_of (by show 2 ≤ 100000; decide)]; rfl
theorem okS_vD (n : Nat) (v : Option Rat) : okS (n + 2) (vD v) = true := by
  cases v with
  | none => rfl
  | some q => exact okS_rD n q
theorem okS_tup {n : Nat} {α : Type} {f : α → D} {l : List α} (hl : l.length ≤ 100000) (h : ∀ a ∈ l, okS n (f a) = true) : okS (n + 1) (.tup (l.map f)) = true := by
  show (small _ && List.all _ _) = true
  rw [small_of (by simpa using hl), Bool.true_and, List.all_eq_true]
  intro d hd
  obtain ⟨a, ha, rfl⟩ := List.mem_map.mp hd
  exact h a ha
end FL.L
set_option maxRecDepth 100000
set_option maxHeartbeats 400000
noncomputable section
namespace FL.L
open PySem PySem.Spec PyProof.Rows L2 FL
/-! the order of values -/
def vle : Option Rat → Option Rat → Prop
  | none, _ => True
  | some _, none => False
  | some a, some b => a ≤ b
theorem vle_refl (a : Option Rat) : vle a a := by
  cases a with
  | none => trivial
  | some a => exact Rat.le_refl
theorem vle_trans {a b c : Option Rat} (h : vle a b) (g : vle b c) : vle a c := by
  cases a with
  | none => trivial
  | some a =>
    cases b with
    | none => exact h.elim
    | some b =>
      cases c with
      | none => exact g.elim
      | some c => exact Rat.le_trans h g
theorem vle_antisymm {a b : Option Rat} (h : vle a b) (g : vle b a) : a = b := by
  cases a with
  | none =>
    cases b with
    | none => rfl
    | some b => exact g.elim
  | some a =>
    cases b with
    | none => exact h.elim
    | some b => rw [Rat.le_antisymm h g]
theorem vless_iff {a b : Option Rat} : vless a b = true ↔ ¬ vle b a := by
  cases a <;> cases b <;> simp [vless, vle, Rat.not_le]
theorem vless_false {a b : Option Rat} : vless a b = false ↔ vle b a := by
  cases a <;> cases b <;> simp [vless, vle, Rat.not_lt]
theorem vle_total (a b : Option Rat) : vle a b ∨ vle b a := by
  cases a with
  | none => exact .inl trivial
  | some a =>
    cases b with
    | none => exact .inr trivial
    | some b => exact Rat.le_total
theorem vle_max1 (a b : Option Rat) : vle a (vmax a b) := by
  unfold vmax
  split
  · rename_i h
    exact (vle_total a b).elim id fun q => absurd q (vless_iff.mp h)
  · exact vle_refl a
theorem vle_max2 (a b : Option Rat) : vle b (vmax a b) := by
  unfold vmax
  split
  · exact vle_refl b
  · rename_i h
    exact vless_false.mp (by simpa using h)
theorem vmax_or (a b : Option Rat) : vmax a b = a ∨ vmax a b = b := by
  unfold vmax; split
  · exact .inr rfl
  · exact .inl rfl
theorem vplus_mono {a b c d : Option Rat} (h : vle a b) (g : vle c d) : vle (vplus a c) (vplus b d) := by
  cases a with
  | none => trivial
  | some a =>
    cases c with
    | none => trivial
    | some c =>
      cases b with
      | none => exact h.elim
      | some b =>
        cases d with
        | none => exact g.elim
        | some d =>
          have h' : a ≤ b := h
          have g' : c ≤ d := g
          show a + c ≤ b + d
          grind
/-- the greatest of the x with S -/
def SupOf (S : Option Rat → Prop) (s : Option Rat) : Prop := (∀ x, S x → vle x s) ∧ (s = none ∨ S s)
theorem SupOf.uniq {S : Option Rat → Prop} {s t : Option Rat} (h : SupOf S s) (g : SupOf S t) : s = t := by
  refine vle_antisymm ?_ ?_
  · rcases h.2 with e | e
    · rw [e]; trivial
    · exact g.1 s e
  · rcases g.2 with e | e
    · rw [e]; trivial
    · exact h.1 t e
theorem SupOf.none {S : Option Rat → Prop} (h : ∀ x, ¬ S x) : SupOf S none := ⟨fun x q => absurd q (h x), .inl rfl⟩
theorem SupOf.max {S T : Option Rat → Prop} {s y : Option Rat} (h : SupOf S s) (hT : ∀ x, T x ↔ S x ∨ x = y) : SupOf T (vmax s y) := by
  refine ⟨fun x hx => ?_, ?_⟩
  · rcases (hT x).mp hx with q | q
    · exact vle_trans (h.1 x q) (vle_max1 s y)
    · rw [q]; exact vle_max2 s y
  · rcases vmax_or s y with e | e
    · rw [e]
      rcases h.2 with q | q
      · exact .inl q
      · exact .inr ((hT _).mpr (.inl q))
    · rw [e]; exact .inr ((hT _).mpr (.inr rfl))
theorem SupOf.congr {S T : Option Rat → Prop} {s : Option Rat} (h : SupOf S s) (hT : ∀ x, T x ↔ S x) : SupOf T s := by
  have : T = S := funext fun x => propext (hT x)
  rw [this]; exact h
theorem SupOf.V0 {S : Option Rat → Prop} {s : Option Rat} (h : SupOf S s) (hS : ∀ x, S x → L.V0 x) : L.V0 s := by
  rcases h.2 with e | e
  · rw [e]; exact V0.none
  · exact hS s e
theorem vmaxL_sup : ∀ (l : List (Option Rat)) (S : Option Rat → Prop) (x : Option Rat), SupOf S x → SupOf (fun y => S y ∨ y ∈ l) (vmaxL x l)
  | [], S, x, h => h.congr fun y => by simp
  | a :: l, S, x, h => by
    have := vmaxL_sup l (fun y => S y ∨ y = a) (vmax x a) (h.max fun y => Iff.rfl)
    refine this.congr fun y => ?_
    simp only [List.mem_cons, or_assoc]
theorem vmaxL_none (l : List (Option Rat)) : SupOf (fun y => y ∈ l) (vmaxL none l) :=
  (vmaxL_sup l (fun _ => False) none (SupOf.none fun _ => id)).congr fun y => by simp
/-! sums -/
def VB (d N : Nat) (v : Option Rat) : Prop := ∀ q, v = some q → Bd d N q
theorem VB.v0 {d N : Nat} {v : Option Rat} (h : VB d N v) (hd : 0 < d) (h2 : d < 2 ^ 200) (h3 : N < 2 ^ 200) : V0 v := fun q e => (h q e).r0 hd h2 h3
theorem VB.some {d N : Nat} {q : Rat} (h : Bd d N q) : VB d N (some q) := fun p e => by cases e; exact h
theorem VB.none {d N : Nat} : VB d N none := fun p e => by cases e
theorem VB.mono {d N M : Nat} {v : Option Rat} (h : VB d N v) (hm : N ≤ M) : VB d M v := fun q e => (h q e).mono hm
theorem VB.plus {d N M : Nat} (hd : d ≠ 0) {a b : Option Rat} (ha : VB d N a) (hb : VB d M b) : VB d (N + M) (vplus a b) := by
  cases a with
  | none => cases b <;> exact VB.none
  | some a =>
    cases b with
    | none => exact VB.none
    | some b => exact VB.some (Bd.add hd (ha a rfl) (hb b rfl))
theorem VB.max {d N : Nat} {a b : Option Rat} (ha : VB d N a) (hb : VB d N b) : VB d N (vmax a b) := by
  rcases vmax_or a b with e | e <;> rw [e]
  · exact ha
  · exact hb
theorem forL_sum {d N : Nat} (hd : 0 < d) (h2 : d < 2 ^ 200) (t : Tape) : ∀ (l : List (Option Rat)) (x : Option Rat) (M : Nat) (a : Option D) (c : Option D), VB d M x → (∀ v ∈ l, VB d N v) → M + l.length * N < 2 ^ 200 → ∃ c', forL (gmName 2) (mSet 1 (mCall 2 0 F_law_plus (mCons (mVar 1) (mCons (mVar 2) mNil)))) (l.map vD) [a, some (vD x), c] t = some (.nx [a, some (vD (vsumL x l)), c'] t)
  | [], x, M, a, c, _, _, _ => ⟨c, rfl⟩
  | v :: l, x, M, a, c, hx, hl, h3 => by
    rw [List.length_cons, Nat.succ_mul] at h3
    have hv := hl v List.mem_cons_self
    obtain ⟨c', h⟩ := forL_sum hd h2 t l (vplus x v) (M + N) a (some (vD v)) (hx.plus (by omega) hv) (fun u hu => hl u (List.mem_cons_of_mem _ hu)) (by omega)
    refine ⟨c', ?_⟩
    simp! [forL, law_plus_ev (hx.v0 hd h2 (by omega)) (hv.v0 hd h2 (by omega)), pln_vD]
    exact h
theorem law_sum_ev {d N : Nat} (hd : 0 < d) (h2 : d < 2 ^ 200) {l : List (Option Rat)} (hl : ∀ v ∈ l, VB d N v) (h3 : l.length * N < 2 ^ 200) (t : Tape) : F_law_sum [.lst (l.map vD)] t = some (vD (vsumL (some 0) l), t) := by
  obtain ⟨c', h⟩ := forL_sum hd h2 t l (some 0) 0 (some (.lst (l.map vD))) none (VB.some Bd.zero) hl (by omega)
  have e : vD (some 0) = .tup [.int 0, .int 1] := rfl
  rw [e] at h
  simp! [F_law_sum, m_law_sum, mFor, h]
theorem vsumL_some (l : List Rat) : ∀ x : Rat, vsumL (some x) (l.map some) = some (l.foldl (· + ·) x) := by
  induction l with
  | nil => intro x; rfl
  | cons a l ih => intro x; exact ih (x + a)
/-! draws -/
theorem law_pick_ev {l : List D} (t : Tape) (ht : TOk t) (h0 : l ≠ []) (hl : l.length ≤ 100000) (hp : ∀ d ∈ l, pln 9 d = true) : ∃ d t', F_law_pick [.tape, .lst l] t = some (d, t') ∧ d ∈ l ∧ TOk t' := by
  have hpos : 0 < l.length := List.length_pos_iff.mpr h0
  obtain ⟨i, t', h1, h2, h3, h4⟩ := draw_ev (m := l.length) ht (by omega) (by omega)
  have hi : i.toNat < l.length := by omega
  have hx : oIx (.lst l) (.int i) = some l[i.toNat] := oIx_lst h2 (List.getElem?_eq_getElem hi)
  exact ⟨l[i.toNat], t', by simp! [F_law_pick, m_law_pick, h1, hx], List.getElem_mem hi, h4⟩
theorem law_number_ev (t : Tape) (ht : TOk t) : ∃ q t', F_law_number [.tape] t = some (rD q, t') ∧ Bd 6 6 q ∧ TOk t' := by
  obtain ⟨i, t1, h1, h2, h3, h4⟩ := draw_ev (m := 13) ht (by decide) (by decide)
  obtain ⟨d, t2, k1, k2, k3⟩ := law_pick_ev (l := [.int 1, .int 1, .int 2, .int 3]) t1 h4 (by simp) (by decide) (by decide)
  have hd : ∃ b : Nat, d = .int b ∧ (b = 1 ∨ b = 2 ∨ b = 3) := by
    simp only [List.mem_cons, List.mem_nil_iff, or_false] at k2
    rcases k2 with e | e | e | e
    · exact ⟨1, e, .inl rfl⟩
    · exact ⟨1, e, .inl rfl⟩
    · exact ⟨2, e, .inr (.inl rfl)⟩
    · exact ⟨3, e, .inr (.inr rfl)⟩
  obtain ⟨b, rfl, hb⟩ := hd
  have hb0 : b ≠ 0 := by omega
  have hf := law_frac_ev (i - 6) b hb0 (Sm.of (by rw [Int.natAbs_natCast]; omega)) t2
  refine ⟨Rat.normalize (i - 6) b hb0, t2, ?_, ⟨?_, ?_⟩, k3⟩
  · simp! [F_law_number, m_law_number, h1, k1, hf, pln_rD]
  · refine Nat.dvd_trans (norm_den_dvd _ _ _) ?_
    rcases hb with rfl | rfl | rfl <;> decide
  · rw [Rat.normalize_eq]
    show ((i - 6) / _).natAbs ≤ 6 * (b / _)
    generalize hg : Nat.gcd (i - 6).natAbs b = g
    have hgb : g ∣ b := by rw [← hg]; exact Nat.gcd_dvd_right _ _
    have hga : (g : Int) ∣ (i - 6) := by rw [← hg]; exact Int.ofNat_dvd_left.mpr (Nat.gcd_dvd_left _ _)
    obtain ⟨u, hu⟩ := hga
    obtain ⟨w, hw⟩ := hgb
    have hg0 : 0 < g := by
      rcases Nat.eq_zero_or_pos g with z | z
      · rw [z, Nat.zero_mul] at hw; exact absurd hw hb0
      · exact z
    rw [hu, hw, Int.mul_ediv_cancel_left _ (by omega), Nat.mul_div_cancel_left _ hg0]
    have h5 : (i - 6).natAbs ≤ 6 := by omega
    rw [hu, Int.natAbs_mul, Int.natAbs_natCast] at h5
    have hw0 : 0 < w := by
      rcases Nat.eq_zero_or_pos w with z | z
      · rw [z, Nat.mul_zero] at hw; exact absurd hw hb0
      · exact z
    have : u.natAbs ≤ g * u.natAbs := Nat.le_mul_of_pos_left _ hg0
    omega
end FL.L
set_option maxRecDepth 100000
set_option maxHeartbeats 400000
noncomputable section
namespace FL.L
open PySem PySem.Spec PyProof.Rows L2 FL
theorem shp_rD (n : Nat) (q : Rat) : shp (n + 2) (rD q) = true := rfl
theorem shp_vD (n : Nat) (v : Option Rat) : shp (n + 2) (vD v) = true := by cases v <;> rfl
theorem shp_tup {n : Nat} {α : Type} {f : α → D} {l : List α} (h : ∀ a ∈ l, shp n (f a) = true) : shp (n + 1) (.tup (l.map f)) = true := by
  show List.all _ _ = true
  rw [List.all_eq_true]
  intro d hd
  obtain ⟨a, ha, rfl⟩ := List.mem_map.mp hd
  exact h a ha
theorem pln_tup {n : Nat} {α : Type} {f : α → D} {l : List α} (h : ∀ a ∈ l, pln n (f a) = true) : pln (n + 1) (.tup (l.map f)) = true := by
  show List.all _ _ = true
  rw [List.all_eq_true]
  intro d hd
  obtain ⟨a, ha, rfl⟩ := List.mem_map.mp hd
  exact h a ha
theorem pln_vD' (n : Nat) (v : Option Rat) : pln (n + 2) (vD v) = true := by cases v <;> rfl
theorem oEq_nil (l : List D) (h : shp 9 (.tup l) = true) : oEq (.tup l) (.tup []) = some (.bl l.isEmpty) := by
  unfold oEq
  rw [h]
  cases l <;> rfl
theorem atI_neg1 {α : Type} (l : List α) (h : l ≠ []) : atI l (-1) = l.getLast? := by
  obtain ⟨r, x, e⟩ : ∃ r x, l = r ++ [x] := ⟨l.dropLast, l.getLast h, (List.dropLast_concat_getLast h).symm⟩
  rw [e, atI_last, List.getLast?_concat]
theorem all_true_ev (n : Nat) : bls ((List.replicate n (D.bl true))) = some (List.replicate n true) := by
  have := bls_map (List.replicate n true)
  rwa [List.map_replicate] at this
theorem bls_map_true {α : Type} (l : List α) : bls (l.map fun _ => D.bl true) = some (l.map fun _ => true) := by
  have := bls_map (l.map fun _ => true)
  rwa [List.map_map] at this
theorem all_const_true {α : Type} (l : List α) : (l.map fun _ => true).all id = true := by simp
theorem is_poly_ev (l : List (Option Rat)) (t : Tape) (hl : l.length ≤ 31) (hlast : l ≠ [] → ∃ q, l.getLast? = some (some q)) : F_polys_is_poly [.tup (l.map vD)] t = some (.bl true, t) := by
  have key : lcL (gmName 1) mYes (mCall 1 0 F_values_is_value (mCons (mVar 1) mNil)) [some (.tup (l.map vD)), none] (l.map vD) t = some (l.map fun _ => D.bl true, t) := by
    refine lcL_map _ _ _ fun v hv => ⟨_, rfl, rfl, ?_⟩
    simp! [is_value_ev]
  have hgt : decide ((31 : Int) < (l.length : Int)) = false := decide_eq_false (by omega)
  have hl2 : l.length ≤ 100000 := by omega
  have hsh : shp 9 (.tup (l.map vD)) = true := shp_tup (n := 8) fun a _ => shp_vD 6 a
  have c1 : mOr (mNot (mTst (mUn (oIsi "tuple") (mVar 0)))) (mOr (mTst (mOp oGt (mCallB gLen (mCons (mVar 0) mNil)) (mOp oAdd (mC d_polys_MOST_DEGREE) (mC (.int 1))))) (mNot (mTst (mCallB gAll (mCons (mLc (mIt (mVar 0)) (gmName 1) mYes (mCall 1 0 F_values_is_value (mCons (mVar 1) mNil)) [1]) mNil))))) [some (.tup (l.map vD)), none] t = some (false, t) := by
    simp! [d_polys_MOST_DEGREE, hgt, mLc, key, hl2, gAll, bls_map_true, all_const_true]
  refine fnM_rt ?_
  unfold m_polys_is_poly
  refine (mSeqIf_f c1).trans (mRet_of ?_)
  by_cases h0 : l = []
  · subst h0
    have e : oEq (.tup []) (.tup []) = some (.bl true) := oEq_nil [] rfl
    simp! [e]
  · obtain ⟨q, hq⟩ := hlast h0
    have hx : oIx (.tup (l.map vD)) (.int (-1)) = some (vD (some q)) := by
      show atI _ _ = _
      rw [atI_neg1 _ (by simpa using h0), List.getLast?_map, hq]; rfl
    have he : (l.map vD).isEmpty = false := by cases l <;> simp_all
    simp! [oEq_nil _ hsh, he, hx, vD, rD]
theorem check_poly_ev (l : List (Option Rat)) (t : Tape) (hl : l.length ≤ 31) (hlast : l ≠ [] → ∃ q, l.getLast? = some (some q)) : F_polys_check_poly [.tup (l.map vD)] t = some (.non, t) := by
  simp! [F_polys_check_poly, m_polys_check_poly, is_poly_ev l t hl hlast]
/-- the coefficient n of the product of as and bs, by the pairs with P -/
def PairS (as bs : List (Option Rat)) (P : Nat → Nat → Prop) (n : Nat) (x : Option Rat) : Prop := ∃ k j a b, P k j ∧ k + j = n ∧ as[k]? = some a ∧ bs[j]? = some b ∧ x = vplus a b
/-- it is the product's coefficients -/
def IsProd (as bs cs : List (Option Rat)) : Prop := cs.length = as.length + bs.length - 1 ∧ ∀ n c, cs[n]? = some c → SupOf (PairS as bs (fun _ _ => True) n) c

theorem enum_at {l : List (Option Rat)} {i : Nat} {d : D} (h : (dEnum 0 (l.map vD))[i]? = some d) : ∃ a, l[i]? = some a ∧ d = .tup [.int i, vD a] := by
  obtain ⟨x, h1, h2⟩ := dEnum_get _ _ _ _ h
  rw [List.getElem?_map] at h1
  cases e : l[i]? with
  | none => rw [e] at h1; cases h1
  | some a =>
    rw [e] at h1
    cases h1
    exact ⟨a, rfl, by rw [h2, Nat.zero_add]⟩
theorem product_ev (as bs : List (Option Rat)) (t : Tape) (ha0 : as ≠ []) (hb0 : bs ≠ []) (hla : as.length ≤ 31) (hlb : bs.length ≤ 31) (hl : as.length + bs.length ≤ 32) (hlasta : ∃ q, as.getLast? = some (some q)) (hlastb : ∃ q, bs.getLast? = some (some q))
    (hva : ∀ a ∈ as, V0 a) (hvb : ∀ b ∈ bs, V0 b) (hvp : ∀ a ∈ as, ∀ b ∈ bs, V0 (vplus a b)) : ∃ cs, F_polys_product [.tup (as.map vD), .tup (bs.map vD)] t = some (.tup (cs.map vD), t) ∧ IsProd as bs cs := by
  have hpa : 0 < as.length := List.length_pos_iff.mpr ha0
  have hpb : 0 < bs.length := List.length_pos_iff.mpr hb0
  have hsa : shp 9 (.tup (as.map vD)) = true := shp_tup (n := 8) fun a _ => shp_vD 6 a
  have hsb : shp 9 (.tup (bs.map vD)) = true := shp_tup (n := 8) fun a _ => shp_vD 6 a
  have hea : (as.map vD).isEmpty = false := by cases as <;> simp_all
  have heb : (bs.map vD).isEmpty = false := by cases bs <;> simp_all
  have hc1 := check_poly_ev as t hla fun _ => hlasta
  have hc2 := check_poly_ev bs t hlb fun _ => hlastb
  have hA : some (D.tup (as.map vD)) = some (D.tup (as.map vD)) := rfl
  have hgt : decide ((30 : Int) < (as.length : Int) + bs.length - 2) = false := decide_eq_false (by omega)
  have hr1 : rep1 ((as.length : Int) + bs.length - 1) [D.non] = true := rep1_of (by omega) (by omega) (by decide)
  have hrl : repL ((as.length : Int) + bs.length - 1) [D.non] = (List.replicate (as.length + bs.length - 1) (none : Option Rat)).map vD := by
    unfold repL
    rw [show ((as.length : Int) + bs.length - 1).toNat = as.length + bs.length - 1 by omega, List.map_replicate]
    generalize as.length + bs.length - 1 = n
    induction n with
    | zero => rfl
    | succ n ih => rw [List.replicate_succ, List.flatten_cons, ih]; rfl
  let A := some (D.tup (as.map vD)); let B := some (D.tup (bs.map vD))
  -- the inner loop
  have inner : ∀ (i : Nat) (a : Option Rat), as[i]? = some a → ∀ F : List (Option Rat), F.length = as.length + bs.length - 1 → (∀ n c, F[n]? = some c → SupOf (PairS as bs (fun k _ => k < i) n) c) → ∀ x5 x6 : Option D,
      ∃ (F' : List (Option Rat)) (y5 y6 : Option D), forL (gmTup 2 (gmCons (gmName 5) (gmCons (gmName 6) gmNil))) (mSetI 2 (mOp oAdd (mVar 3) (mVar 5)) (mCall 2 0 F_values_greater (mCons (mOp oIx (mVar 2) (mOp oAdd (mVar 3) (mVar 5))) (mCons (mCall 2 0 F_values_plus (mCons (mVar 4) (mCons (mVar 6) mNil))) mNil)))) (dEnum 0 (bs.map vD)) [A, B, some (.lst (F.map vD)), some (.int i), some (vD a), x5, x6] t = some (.nx [A, B, some (.lst (F'.map vD)), some (.int i), some (vD a), y5, y6] t) ∧
        F'.length = as.length + bs.length - 1 ∧ (∀ n c, F'[n]? = some c → SupOf (PairS as bs (fun k _ => k < i + 1) n) c) := by
    intro i a hia F hFl hF x5 x6
    have hi : i < as.length := (List.getElem?_eq_some_iff.mp hia).1
    have ham : a ∈ as := List.mem_of_getElem? hia
    obtain ⟨ρ', t', h1, h2⟩ := forL_at (g := gmTup 2 (gmCons (gmName 5) (gmCons (gmName 6) gmNil))) (sm := mSetI 2 (mOp oAdd (mVar 3) (mVar 5)) (mCall 2 0 F_values_greater (mCons (mOp oIx (mVar 2) (mOp oAdd (mVar 3) (mVar 5))) (mCons (mCall 2 0 F_values_plus (mCons (mVar 4) (mCons (mVar 6) mNil))) mNil)))) (dEnum 0 (bs.map vD))
      (fun m ρ t' => t' = t ∧ ∃ (F : List (Option Rat)) (y5 y6 : Option D), ρ = [A, B, some (.lst (F.map vD)), some (.int i), some (vD a), y5, y6] ∧ F.length = as.length + bs.length - 1 ∧ ∀ n c, F[n]? = some c → SupOf (PairS as bs (fun k j => k < i ∨ (k = i ∧ j < m)) n) c)
      (fun m d ρ t' hd ⟨ht, F, y5, y6, hρ, hFl, hF⟩ => by
        subst ht hρ
        obtain ⟨b, hb, rfl⟩ := enum_at hd
        have hm : m < bs.length := (List.getElem?_eq_some_iff.mp hb).1
        have hbm : b ∈ bs := List.mem_of_getElem? hb
        have hn : i + m < F.length := by omega
        have hv0 : V0 F[i + m] := (hF _ _ (List.getElem?_eq_getElem hn)).V0 fun x ⟨k, j, p, q, _, _, e1, e2, e3⟩ => by
          rw [e3]; exact hvp p (List.mem_of_getElem? e1) q (List.mem_of_getElem? e2)
        have hx : oIx (.lst (F.map vD)) (.int ((i : Int) + m)) = some (vD F[i + m]) := oIx_lst (by omega) (by
          rw [show ((i : Int) + m).toNat = i + m by omega, List.getElem?_map, List.getElem?_eq_getElem hn]; rfl)
        have hix : ixN F.length ((i : Int) + m) = some (i + m) := by
          rw [ixN_of (by omega) (by omega)]; congr 1
        refine ⟨_, _, rfl, ?_, [A, B, some (.lst ((F.set (i + m) (vmax F[i + m] (vplus a b))).map vD)), some (.int i), some (vD a), some (.int m), some (vD b)], t', .inl rfl, rfl, _, _, _, rfl, by rw [List.length_set]; exact hFl, fun n c hc => ?_⟩
        · simp! [mSetI, hx, plus_ev (hva a ham) (hvb b hbm), pln_vD, greater_ev hv0 (hvp a ham b hbm), hix, List.map_set]
        · by_cases e : n = i + m
          · subst e
            rw [List.getElem?_set_self hn] at hc
            cases hc
            refine (hF _ _ (List.getElem?_eq_getElem hn)).max fun x => ⟨?_, ?_⟩
            · rintro ⟨k, j, p, q, hP, h2, h3, h4, h5⟩
              rcases hP with hP | ⟨hP1, hP2⟩
              · exact .inl ⟨k, j, p, q, .inl hP, h2, h3, h4, h5⟩
              · subst hP1
                by_cases e2 : j = m
                · subst e2
                  rw [hia] at h3; rw [hb] at h4
                  cases h3; cases h4
                  exact .inr h5
                · exact .inl ⟨k, j, p, q, .inr ⟨rfl, by omega⟩, h2, h3, h4, h5⟩
            · rintro (⟨k, j, p, q, hP, h2, h3, h4, h5⟩ | e)
              · refine ⟨k, j, p, q, ?_, h2, h3, h4, h5⟩
                rcases hP with hP | ⟨hP1, hP2⟩
                · exact .inl hP
                · exact .inr ⟨hP1, by omega⟩
              · exact ⟨i, m, a, b, .inr ⟨rfl, by omega⟩, rfl, hia, hb, e⟩
          · rw [List.getElem?_set_ne (Ne.symm e)] at hc
            refine (hF _ _ hc).congr fun x => ⟨?_, ?_⟩
            · rintro ⟨k, j, p, q, hP, h2, h3, h4, h5⟩
              refine ⟨k, j, p, q, ?_, h2, h3, h4, h5⟩
              rcases hP with hP | ⟨hP1, hP2⟩
              · exact .inl hP
              · exact .inr ⟨hP1, by omega⟩
            · rintro ⟨k, j, p, q, hP, h2, h3, h4, h5⟩
              refine ⟨k, j, p, q, ?_, h2, h3, h4, h5⟩
              rcases hP with hP | ⟨hP1, hP2⟩
              · exact .inl hP
              · exact .inr ⟨hP1, by omega⟩)
      (ρ := [A, B, some (.lst (F.map vD)), some (.int i), some (vD a), x5, x6]) (t := t) ⟨rfl, F, x5, x6, rfl, hFl, fun n c hc => (hF n c hc).congr fun x => ⟨fun ⟨k, j, p, q, hP, r⟩ => ⟨k, j, p, q, by omega, r⟩, fun ⟨k, j, p, q, hP, r⟩ => ⟨k, j, p, q, .inl hP, r⟩⟩⟩
    obtain ⟨ht, F', y5, y6, hρ, h3, h4⟩ := h2
    subst ht hρ
    refine ⟨F', y5, y6, h1, h3, fun n c hc => (h4 n c hc).congr fun x => ⟨?_, ?_⟩⟩
    · rintro ⟨k, j, p, q, hP, h5, h6, h7, h8⟩
      refine ⟨k, j, p, q, ?_, h5, h6, h7, h8⟩
      by_cases e : k < i
      · exact .inl e
      · refine .inr ⟨by omega, ?_⟩
        rw [dEnum_len, List.length_map]
        exact (List.getElem?_eq_some_iff.mp h7).1
    · rintro ⟨k, j, p, q, hP, r⟩
      exact ⟨k, j, p, q, by omega, r⟩
  -- the outer loop
  obtain ⟨ρ', t', h1, h2⟩ := forL_at (g := gmTup 2 (gmCons (gmName 3) (gmCons (gmName 4) gmNil))) (sm := mFor (mIter dEnumA (mCons (mVar 1) mNil)) (gmTup 2 (gmCons (gmName 5) (gmCons (gmName 6) gmNil))) (mSetI 2 (mOp oAdd (mVar 3) (mVar 5)) (mCall 2 0 F_values_greater (mCons (mOp oIx (mVar 2) (mOp oAdd (mVar 3) (mVar 5))) (mCons (mCall 2 0 F_values_plus (mCons (mVar 4) (mCons (mVar 6) mNil))) mNil))))) (dEnum 0 (as.map vD))
    (fun i ρ t' => t' = t ∧ ∃ (F : List (Option Rat)) (y3 y4 y5 y6 : Option D), ρ = [A, B, some (.lst (F.map vD)), y3, y4, y5, y6] ∧ F.length = as.length + bs.length - 1 ∧ ∀ n c, F[n]? = some c → SupOf (PairS as bs (fun k _ => k < i) n) c)
    (fun i d ρ t' hd ⟨ht, F, y3, y4, y5, y6, hρ, hFl, hF⟩ => by
      subst ht hρ
      obtain ⟨a, hia, rfl⟩ := enum_at hd
      obtain ⟨F', z5, z6, k1, k2, k3⟩ := inner i a hia F hFl hF y5 y6
      refine ⟨_, _, rfl, (mFor_of (ds := dEnum 0 (bs.map vD)) (t' := t') rfl).trans k1, _, _, .inl rfl, rfl, F', _, _, _, _, rfl, k2, k3⟩)
    (ρ := [A, B, some (.lst ((List.replicate (as.length + bs.length - 1) none).map vD)), none, none, none, none]) (t := t) ⟨rfl, _, _, _, _, _, rfl, by simp, fun n c hc => by
      rw [List.getElem?_replicate] at hc
      split at hc
      · cases hc; exact SupOf.none fun x ⟨k, j, p, q, hP, _⟩ => absurd hP (Nat.not_lt_zero _)
      · cases hc⟩
  obtain ⟨ht, F', y3, y4, y5, y6, hρ, h3, h4⟩ := h2
  subst ht hρ
  refine ⟨F', ?_, h3, fun n c hc => (h4 n c hc).congr fun x => ⟨?_, ?_⟩⟩
  · refine fnM_rt ?_
    unfold m_polys_product
    have d1 : mDrop (mCall 1 0 F_polys_check_poly (mCons (mVar 0) mNil)) [A, B, none, none, none, none, none] t' = some (.nx [A, B, none, none, none, none, none] t') := by simp! [A, hc1]
    have d2 : mDrop (mCall 1 0 F_polys_check_poly (mCons (mVar 1) mNil)) [A, B, none, none, none, none, none] t' = some (.nx [A, B, none, none, none, none, none] t') := by simp! [A, B, hc2]
    have c1 : mOr (mTst (mOp oEq (mVar 0) (mTup mNil))) (mTst (mOp oEq (mVar 1) (mTup mNil))) [A, B, none, none, none, none, none] t' = some (false, t') := by simp! [A, B, oEq_nil _ hsa, oEq_nil _ hsb, hea, heb]
    have c2 : mTst (mOp oGt (mOp oSub (mOp oAdd (mCallB gLen (mCons (mVar 0) mNil)) (mCallB gLen (mCons (mVar 1) mNil))) (mC (.int 2))) (mC d_polys_MOST_DEGREE)) [A, B, none, none, none, none, none] t' = some (false, t') := by simp! [A, B, d_polys_MOST_DEGREE, hgt]
    refine (mSeq_nx d1).trans ((mSeq_nx d2).trans ((mSeqIf_f c1).trans ((mSeqIf_f c2).trans ?_)))
    refine (mSeq_nx (mSet_of (d := .lst ((List.replicate (as.length + bs.length - 1) (none : Option Rat)).map vD)) (t' := t') ?_)).trans ?_
    · simp! [A, B, oRep, hr1, hrl]
    refine (mSeq_nx ((mFor_of (ds := dEnum 0 (as.map vD)) (t' := t') rfl).trans h1)).trans (mRet_of ?_)
    simp! []
  · rintro ⟨k, j, p, q, hP, h5, h6, h7⟩
    exact ⟨k, j, p, q, by rw [dEnum_len, List.length_map]; exact (List.getElem?_eq_some_iff.mp h6).1, h5, h6, h7⟩
  · rintro ⟨k, j, p, q, hP, r⟩
    exact ⟨k, j, p, q, trivial, r⟩

theorem dEnum_zip {α : Type} (f : α → D) : ∀ (l : List α) (n : Nat), dEnum n (l.map f) = (l.zipIdx n).map fun p => .tup [.int p.2, f p.1]
  | [], _ => rfl
  | a :: l, n => by
    simp only [List.map_cons, dEnum, List.zipIdx_cons, dEnum_zip f l (n + 1)]
/-- the value at p -/
def pvals (l : List (Option Rat)) (p : Option Rat) : List (Option Rat) := l.zipIdx.map fun a => vplus a.1 (vtimes p a.2)
theorem value_ev (l : List (Option Rat)) (p : Option Rat) (t : Tape) (hl : l.length ≤ 31) (hlast : l ≠ [] → ∃ q, l.getLast? = some (some q)) (hp : V0 p) (h1 : ∀ (k : Nat) (a : Option Rat), l[k]? = some a → V0 a ∧ V0 (vtimes p k) ∧ V0 (vplus a (vtimes p k))) :
    F_polys_value [.tup (l.map vD), vD p] t = some (vD (vmaxL none (pvals l p)), t) := by
  have hc := check_poly_ev l t hl hlast
  have key : ∀ x y : Option D, lcL (gmTup 2 (gmCons (gmName 2) (gmCons (gmName 3) gmNil))) mYes (mCall 2 0 F_values_plus (mCons (mVar 3) (mCons (mCall 2 0 F_values_times (mCons (mVar 1) (mCons (mVar 2) mNil))) mNil))) [some (.tup (l.map vD)), some (vD p), x, y] (dEnum 0 (l.map vD)) t = some ((pvals l p).map vD, t) := fun x y => by
    rw [dEnum_zip]
    unfold pvals
    rw [List.map_map]
    refine lcL_map _ _ _ fun a ha => ⟨_, rfl, rfl, ?_⟩
    obtain ⟨a, k⟩ := a
    have hk := List.mem_zipIdx_iff_getElem?.mp ha
    obtain ⟨g1, g2, g3⟩ := h1 k a hk
    have hkl : k < l.length := (List.getElem?_eq_some_iff.mp hk).1
    have ht := times_ev hp (n := (k : Int)) (by omega) t
    simp! [ht, pln_vD, plus_ev g1 g2]
    rfl
  have hg := greatest_evL (l := pvals l p) (fun v hv => by
    unfold pvals at hv
    obtain ⟨⟨a, k⟩, ha, rfl⟩ := List.mem_map.mp hv
    exact (h1 k a (List.mem_zipIdx_iff_getElem?.mp ha)).2.2) t
  have hpl : (pvals l p).length ≤ 100000 := by unfold pvals; simp; omega
  simp! [F_polys_value, m_polys_value, hc, mLc, dEnumA, key, hpl, hg, pln_vD]
end FL.L
set_option maxRecDepth 100000
set_option maxHeartbeats 200000
noncomputable section
namespace FL.L
open PySem PySem.Spec PyProof.Rows L2 FL
/-! lots in a room: things are weights and worths -/
def iD (n : Nat) : D := .int n
/-- the greatest worth for each room, a thing more -/
def kstep (w : Nat) (v : Rat) (f : Nat → Rat) (p : Nat) : Rat := if w ≤ p ∧ f p < f (p - w) + v then f (p - w) + v else f p
def lots : List (Nat × Rat) → Nat → Rat
  | ths => ths.foldl (fun f th => kstep th.1 th.2 f) (fun _ => 0)
theorem check_things_ev (ths : List (Nat × Rat)) (room : Nat) (t : Tape) (hr : room ≤ 200) (hn : ths.length ≤ 24) (hw : ∀ th ∈ ths, 0 < th.1) :
    F_rules_check_things [.tup (ths.map fun th => iD th.1), .tup (ths.map fun th => rD th.2), .int room] t = some (.non, t) := by
  have k1 : ∀ x, lcL (gmName 3) mYes (mCall 1 0 F_ratios_is_ratio (mCons (mVar 3) mNil)) [some (.tup (ths.map fun th => iD th.1)), some (.tup (ths.map fun th => rD th.2)), some (.int room), x] (ths.map fun th => rD th.2) t = some (ths.map fun _ => D.bl true, t) := fun x =>
    lcL_map _ _ _ fun th hth => ⟨_, rfl, rfl, by simp! [is_ratio_ev]⟩
  have k2 : ∀ x, lcL (gmName 3) mYes (mAndV (mCall 1 0 F_ratios_is_integer (mCons (mVar 3) mNil)) (mOp oGt (mVar 3) (mC (.int 0)))) [some (.tup (ths.map fun th => iD th.1)), some (.tup (ths.map fun th => rD th.2)), some (.int room), x] (ths.map fun th => iD th.1) t = some (ths.map fun _ => D.bl true, t) := fun x =>
    lcL_map _ _ _ fun th hth => ⟨_, rfl, rfl, by
      have := hw th hth
      have h2 : decide ((0 : Int) < (th.1 : Int)) = true := decide_eq_true (by omega)
      simp! [iD, is_integer_ev, h2]⟩
  have h1 : decide ((room : Int) < 0) = false := decide_eq_false (by omega)
  have h2 : decide ((200 : Int) < room) = false := decide_eq_false (by omega)
  have h3 : decide ((24 : Int) < (ths.length : Int)) = false := decide_eq_false (by omega)
  have h4 : ths.length ≤ 100000 := by omega
  have h5 : oNe (.int (ths.length : Int)) (.int (ths.length : Int)) = some (.bl false) := by rw [oNe_int, decide_eq_true rfl]; rfl
  refine fnM_nx (ρ := [some (.tup (ths.map fun th => iD th.1)), some (.tup (ths.map fun th => rD th.2)), some (.int room), none]) ?_
  unfold m_rules_check_things
  refine (mSeqIf_f (t' := t) ?_).trans ((mSeqIf_f (t' := t) ?_).trans ((mSeqIf_f (t' := t) ?_).trans ((mIf_f (t' := t) ?_).trans rfl)))
  · simp! [is_integer_ev, h1, h2]
  · simp! []
  · simp! [d_rules_MOST_RULES, h3, mLc, k1, h4, gAll, bls_map_true, all_const_true]
  · simp! [mLc, k2, h4, gAll, bls_map_true, all_const_true]

theorem map_range_set {α : Type} (φ : Nat → α) (n q : Nat) (x : α) : ((List.range n).map φ).set q x = (List.range n).map fun p => if p = q then x else φ p := by
  refine List.ext_getElem? fun i => ?_
  by_cases hi : i < n
  · by_cases e : q = i
    · subst e
      rw [List.getElem?_set_self (by simpa using hi), List.getElem?_map, List.getElem?_range hi]
      simp
    · rw [List.getElem?_set_ne e, List.getElem?_map, List.getElem?_map, List.getElem?_range hi]
      simp [Ne.symm e]
  · rw [List.getElem?_eq_none (by simpa using hi), List.getElem?_eq_none (by simpa using hi)]
theorem range_at {α : Type} (φ : Nat → α) {n q : Nat} (h : q < n) : ((List.range n).map φ)[q]? = some (φ q) := by
  rw [List.getElem?_map, List.getElem?_range h]; rfl
theorem kstep_bd {d N M : Nat} (hd : d ≠ 0) {w : Nat} {v : Rat} {f : Nat → Rat} (hf : ∀ p, Bd d N (f p)) (hv : Bd d M v) (p : Nat) : Bd d (N + M) (kstep w v f p) := by
  unfold kstep
  split
  · exact Bd.add hd (hf _) hv
  · exact (hf _).mono (by omega)
abbrev lotsIn : SM := mSeq (mSet 7 (mCall 2 0 F_values_plus (mCons (mOp oIx (mVar 3) (mOp oSub (mVar 6) (mVar 4))) (mCons (mVar 5) mNil)))) (mSetI 3 (mVar 6) (mIfE (mTst (mCall 2 0 F_values_is_less (mCons (mOp oIx (mVar 3) (mVar 6)) (mCons (mVar 7) mNil)))) (mVar 7) (mOp oIx (mVar 3) (mVar 6))))
theorem dRangeD_ev {i j : Nat} (h1 : i ≤ 1000) (h2 : j ≤ 1000) : dRangeD [.int (i : Int), .int ((j : Int) - 1), .int (-1)] = some ((List.range (i + 1 - j)).map fun (k : Nat) => D.int ((i : Int) - (k : Int))) := by
  have b1 := big_of (i := (i : Int)) (by omega) (by omega)
  have b2 := big_of (i := (j : Int) - 1) (by omega) (by omega)
  unfold dRangeD
  simp only [b1, b2]
  show (if (true && true && ((-1 : Int) == -1)) = true then _ else _) = _
  rw [if_pos (by decide), show ((i : Int) - ((j : Int) - 1)).toNat = i + 1 - j by omega]
  congr 2
  funext k
  congr 1
  omega
theorem lots_in {d N M : Nat} (hd : 0 < d) (h2 : d < 2 ^ 200) (h3 : N + M < 2 ^ 200) (W V : Option D) (room w : Nat) (v : Rat) (f : Nat → Rat) (hf : ∀ p, Bd d N (f p)) (hv : Bd d M v) (hw : 0 < w) (t : Tape) (x6 x7 : Option D) :
    ∃ y6 y7, forL (gmName 6) lotsIn ((List.range (room + 1 - w)).map fun (k : Nat) => D.int ((room : Int) - (k : Int))) [W, V, some (.int room), some (.lst ((List.range (room + 1)).map fun p => rD (f p))), some (iD w), some (rD v), x6, x7] t
      = some (.nx [W, V, some (.int room), some (.lst ((List.range (room + 1)).map fun p => rD (kstep w v f p))), some (iD w), some (rD v), y6, y7] t) := by
  have hd0 : d ≠ 0 := by omega
  obtain ⟨ρ', t', h1, ht, y6, y7, hρ⟩ := forL_at (g := gmName 6) (sm := lotsIn) ((List.range (room + 1 - w)).map fun (k : Nat) => D.int ((room : Int) - (k : Int)))
    (fun i ρ t' => t' = t ∧ ∃ y6 y7, ρ = [W, V, some (.int room), some (.lst ((List.range (room + 1)).map fun p => rD (if room < p + i then kstep w v f p else f p))), some (iD w), some (rD v), y6, y7])
    (fun i e ρ t' he ⟨ht, y6, y7, hρ⟩ => by
      subst ht hρ
      have hi : i < room + 1 - w := by
        have := (List.getElem?_eq_some_iff.mp he).1
        simpa using this
      rw [range_at _ hi] at he
      cases he
      have e1 : oIx (.lst ((List.range (room + 1)).map fun p => rD (if room < p + i then kstep w v f p else f p))) (.int ((room : Int) - i - w)) = some (rD (f (room - i - w))) := oIx_lst (by omega) (by
        rw [show ((room : Int) - i - w).toNat = room - i - w by omega, range_at _ (by omega), if_neg (by omega)])
      have e2 : oIx (.lst ((List.range (room + 1)).map fun p => rD (if room < p + i then kstep w v f p else f p))) (.int ((room : Int) - i)) = some (rD (f (room - i))) := oIx_lst (by omega) (by
        rw [show ((room : Int) - i).toNat = room - i by omega, range_at _ (by omega), if_neg (by omega)])
      have e3 : ixN (room + 1) ((room : Int) - i) = some (room - i) := by
        rw [ixN_of (by omega) (by omega)]; congr 1; omega
      have p1 := plus_ev (a := some (f (room - i - w))) (b := some v) (V0.some ((hf _).r0 hd h2 (by omega))) (V0.some (hv.r0 hd h2 (by omega))) t'
      have p2 := is_less_ev (a := some (f (room - i))) (b := some (f (room - i - w) + v)) (V0.some ((hf _).r0 hd h2 (by omega))) (V0.some ((Bd.add hd0 (hf _) hv).r0 hd h2 h3)) t'
      simp only [vD, vplus, vless] at p1 p2
      refine ⟨_, _, rfl, ?_, [W, V, some (.int room), some (.lst ((List.range (room + 1)).map fun p => rD (if room < p + (i + 1) then kstep w v f p else f p))), some (iD w), some (rD v), some (.int ((room : Int) - i)), some (rD (f (room - i - w) + v))], t', .inl rfl, rfl, _, _, rfl⟩
      have fin : ((List.range (room + 1)).map fun p => rD (if room < p + i then kstep w v f p else f p)).set (room - i) (rD (kstep w v f (room - i))) = (List.range (room + 1)).map fun p => rD (if room < p + (i + 1) then kstep w v f p else f p) := by
        rw [map_range_set]
        refine List.map_congr_left fun p hp => ?_
        by_cases e : p = room - i
        · subst e
          rw [if_pos rfl, if_pos (by omega)]
        · rw [if_neg e]
          by_cases e2 : room < p + i
          · rw [if_pos e2, if_pos (by omega)]
          · rw [if_neg e2, if_neg (by omega)]
      have fin2 : kstep w v f (room - i) = if f (room - i) < f (room - i - w) + v then f (room - i - w) + v else f (room - i) := by
        unfold kstep
        by_cases c : f (room - i) < f (room - i - w) + v
        · rw [if_pos ⟨by omega, c⟩, if_pos c]
        · rw [if_neg fun z => c z.2, if_neg c]
      rw [fin2] at fin
      by_cases c : f (room - i) < f (room - i - w) + v
      · rw [if_pos c] at fin
        rw [decide_eq_true c] at p2
        simp! [lotsIn, iD, mSetI, e1, e2, e3, p1, p2, pln_rD, fin]
      · rw [if_neg c] at fin
        rw [decide_eq_false c] at p2
        simp! [lotsIn, iD, mSetI, e1, e2, e3, p1, p2, pln_rD, fin])
    (ρ := [W, V, some (.int room), some (.lst ((List.range (room + 1)).map fun p => rD (f p))), some (iD w), some (rD v), x6, x7]) (t := t) ⟨rfl, x6, x7, by
      congr 5
      congr 1
      refine List.map_congr_left fun p hp => ?_
      rw [if_neg (by have := List.mem_range.mp hp; omega)]⟩
  subst ht hρ
  refine ⟨y6, y7, h1.trans ?_⟩
  congr 6
  congr 2
  refine List.map_congr_left fun p hp => ?_
  have hp := List.mem_range.mp hp
  rw [List.length_map, List.length_range]
  by_cases e : room < p + (room + 1 - w)
  · rw [if_pos e]
  · rw [if_neg e]
    unfold kstep
    rw [if_neg fun z => by omega]

theorem dZip_map {α : Type} (f g : α → D) : ∀ l : List α, dZip (l.map f) (l.map g) = l.map fun a => .tup [f a, g a]
  | [] => rfl
  | a :: l => by simp only [List.map_cons, dZip, dZip_map f g l]
theorem lots_snoc (l : List (Nat × Rat)) (th : Nat × Rat) : lots (l ++ [th]) = kstep th.1 th.2 (lots l) := by
  unfold lots; rw [List.foldl_append]; rfl
theorem take_succ {α : Type} {l : List α} {i : Nat} {a : α} (h : l[i]? = some a) : l.take (i + 1) = l.take i ++ [a] := by
  obtain ⟨hi, rfl⟩ := List.getElem?_eq_some_iff.mp h
  exact List.take_succ_eq_append_getElem hi
theorem lots_bd {d N : Nat} (hd : d ≠ 0) : ∀ (l : List (Nat × Rat)) (M : Nat) (f : Nat → Rat), (∀ p, Bd d M (f p)) → (∀ th ∈ l, Bd d N th.2) → ∀ p, Bd d (M + l.length * N) (l.foldl (fun f th => kstep th.1 th.2 f) f p)
  | [], M, f, hf, _, p => (hf p).mono (by omega)
  | th :: l, M, f, hf, hl, p => by
    have := lots_bd hd l (M + N) (kstep th.1 th.2 f) (kstep_bd hd hf (hl th List.mem_cons_self)) (fun u hu => hl u (List.mem_cons_of_mem _ hu)) p
    refine this.mono ?_
    rw [List.length_cons, Nat.succ_mul]; omega
theorem lots_Bd {d N : Nat} (hd : d ≠ 0) (l : List (Nat × Rat)) (hl : ∀ th ∈ l, Bd d N th.2) (p : Nat) : Bd d (l.length * N) (lots l p) := (lots_bd hd l 0 (fun _ => 0) (fun _ => Bd.zero) hl p).mono (by omega)
theorem lots_of_ev {d N : Nat} (hd : 0 < d) (h2 : d < 2 ^ 200) (h3 : N < 2 ^ 100) (ths : List (Nat × Rat)) (room : Nat) (t : Tape) (hr : room ≤ 200) (hn : ths.length ≤ 24) (hw : ∀ th ∈ ths, 0 < th.1) (hw2 : ∀ th ∈ ths, th.1 ≤ 1000) (hv : ∀ th ∈ ths, Bd d N th.2) :
    F_rules_lots_of [.tup (ths.map fun th => iD th.1), .tup (ths.map fun th => rD th.2), .int room] t = some (.tup ((List.range (room + 1)).map fun p => rD (lots ths p)), t) := by
  have hd0 : d ≠ 0 := by omega
  have hmul : ∀ i : Nat, i ≤ 24 → i * N + N < 2 ^ 200 := fun i hi => by
    have : i * N ≤ 24 * N := Nat.mul_le_mul_right _ hi
    omega
  have hc := check_things_ev ths room t hr hn hw
  let W := some (D.tup (ths.map fun th => iD th.1)); let V := some (D.tup (ths.map fun th => rD th.2))
  have hrep : repL ((room : Int) + 1) [d_ratios_ZERO] = (List.range (room + 1)).map fun p => rD ((fun _ => 0 : Nat → Rat) p) := by
    unfold repL
    rw [show ((room : Int) + 1).toNat = room + 1 by omega]
    generalize room + 1 = n
    induction n with
    | zero => rfl
    | succ n ih => rw [List.replicate_succ', List.flatten_append, ih, List.range_succ, List.map_append]; rfl
  have hr1 : rep1 ((room : Int) + 1) [d_ratios_ZERO] = true := rep1_of (by omega) (by omega) (by show 1 ≤ 1000; decide)
  obtain ⟨ρ', t', h1, ht, y4, y5, y6, y7, hρ⟩ := forL_at (g := gmTup 2 (gmCons (gmName 4) (gmCons (gmName 5) gmNil))) (sm := mFor (mIter dRangeD (mCons (mVar 2) (mCons (mOp oSub (mVar 4) (mC (.int 1))) (mCons (mUn oNeg (mC (.int 1))) mNil)))) (gmName 6) lotsIn) (ths.map fun th => D.tup [iD th.1, rD th.2])
    (fun i ρ t' => t' = t ∧ ∃ y4 y5 y6 y7, ρ = [W, V, some (.int room), some (.lst ((List.range (room + 1)).map fun p => rD (lots (ths.take i) p))), y4, y5, y6, y7])
    (fun i e ρ t' he ⟨ht, y4, y5, y6, y7, hρ⟩ => by
      subst ht hρ
      rw [List.getElem?_map] at he
      cases hth : ths[i]? with
      | none => rw [hth] at he; cases he
      | some th =>
        rw [hth] at he
        cases he
        have hm := List.mem_of_getElem? hth
        have hi : i < ths.length := (List.getElem?_eq_some_iff.mp hth).1
        have hb : ∀ p, Bd d (i * N) (lots (ths.take i) p) := fun p => (lots_Bd hd0 (ths.take i) (fun u hu => hv u (List.mem_of_mem_take hu)) p).mono (by
          rw [List.length_take]; exact Nat.mul_le_mul_right _ (Nat.min_le_left _ _))
        obtain ⟨z6, z7, k⟩ := lots_in hd h2 (hmul i (by omega)) W V room th.1 th.2 (lots (ths.take i)) hb (hv th hm) (hw th hm) t' y6 y7
        have hR := dRangeD_ev (i := room) (j := th.1) (by omega) (hw2 th hm)
        refine ⟨_, _, rfl, (mFor_of (ds := (List.range (room + 1 - th.1)).map fun (k : Nat) => D.int ((room : Int) - (k : Int))) (t' := t') ?_).trans k, _, _, .inl rfl, rfl, some (iD th.1), some (rD th.2), z6, z7, ?_⟩
        · simp! [iD, hR]
        · rw [take_succ hth, lots_snoc])
    (ρ := [W, V, some (.int room), some (.lst ((List.range (room + 1)).map fun p => rD ((fun _ => 0 : Nat → Rat) p))), none, none, none, none]) (t := t) ⟨rfl, _, _, _, _, rfl⟩
  subst ht hρ
  refine fnM_rt ?_
  unfold m_rules_lots_of
  refine (mSeq_nx (mDrop_of (d := .non) (t' := t') ?_)).trans ((mSeq_nx (mSet_of (t' := t') (d := .lst ((List.range (room + 1)).map fun p => rD ((fun _ => 0 : Nat → Rat) p))) ?_)).trans ((mSeq_nx ((mFor_of (t' := t') (ds := ths.map fun th => D.tup [iD th.1, rD th.2]) ?_).trans h1)).trans (mRet_of ?_)))
  · simp! [hc]
  · simp! [oRep, hr1, hrep]
  · simp! [dZipA, dZip_map]
  · rw [List.length_map, List.take_length]
    simp! []

theorem cut_take {α : Type} (l : List α) (k : Nat) : cutL l none (some (k : Int)) = l.take k := by
  unfold cutL
  rw [HT.sIx_none, HT.sIx_nat, List.drop_zero, Nat.sub_zero, ← List.take_eq_take_min]
theorem deq_rD (a b : Rat) : deq 9 (rD a) (rD b) = decide (a = b) := by
  show (a.num == b.num && ((a.den : Int) == (b.den : Int) && true)) = _
  rw [Bool.and_true]
  by_cases h : a = b
  · subst h; simp
  · rw [decide_eq_false h]
    by_cases h1 : a.num = b.num
    · have h2 : a.den ≠ b.den := fun z => h (Rat.ext h1 z)
      have h3 : (a.den : Int) ≠ b.den := fun z => h2 (Int.ofNat.inj z)
      simp [h1, h3]
    · simp [h1]
theorem oNe_rD (a b : Rat) : oNe (rD a) (rD b) = some (.bl (!decide (a = b))) := by
  show some (D.bl (!deq 9 (rD a) (rD b))) = _
  rw [deq_rD]
theorem oEq_rD (a b : Rat) : oEq (rD a) (rD b) = some (.bl (decide (a = b))) := by
  show some (D.bl (deq 9 (rD a) (rD b))) = _
  rw [deq_rD]
/-- what chosen takes, from the last on -/
def chs (ths : List (Nat × Rat)) : Nat → Nat → List Nat
  | 0, _ => []
  | i + 1, left => if lots (ths.take (i + 1)) left ≠ lots (ths.take i) left then i :: chs ths i (left - ((ths[i]?).map (·.1)).getD 0) else chs ths i left
theorem kstep_ne {w : Nat} {v : Rat} {f : Nat → Rat} {p : Nat} (h : kstep w v f p ≠ f p) : w ≤ p ∧ kstep w v f p = f (p - w) + v := by
  unfold kstep at h ⊢
  split
  · rename_i c; exact ⟨c.1, rfl⟩
  · rename_i c; rw [if_neg c] at h; exact absurd rfl h
abbrev chsIn : SM := mSeq (mSet 6 (mCall 3 0 F_rules_lots_of (mCons (mSl oSlT (mVar 0) mNoO (mO (mVar 5))) (mCons (mSl oSlT (mVar 1) mNoO (mO (mVar 5))) (mCons (mVar 4) mNil))))) (mSeq (mSet 7 (mCall 3 0 F_rules_lots_of (mCons (mSl oSlT (mVar 0) mNoO (mO (mOp oAdd (mVar 5) (mC (.int 1))))) (mCons (mSl oSlT (mVar 1) mNoO (mO (mOp oAdd (mVar 5) (mC (.int 1))))) (mCons (mVar 4) mNil))))) (mIf (mTst (mOp oNe (mOp oIx (mVar 7) (mVar 4)) (mOp oIx (mVar 6) (mVar 4)))) (mSeq (mApp 3 (mVar 5)) (mAug 4 (fun i j => i - j) (mOp oIx (mVar 0) (mVar 5)))) mSkip))
theorem dRangeD_all {n : Nat} (h1 : n ≤ 1000) : dRangeD [.int ((n : Int) - 1), .int (-1), .int (-1)] = some ((List.range n).map fun (k : Nat) => D.int ((n : Int) - 1 - (k : Int))) := by
  have b1 := big_of (i := (n : Int) - 1) (by omega) (by omega)
  have b2 := big_of (i := -1) (by omega) (by omega)
  unfold dRangeD
  simp only [b1, b2]
  show (if (true && true && ((-1 : Int) == -1)) = true then _ else _) = _
  rw [if_pos (by decide), show ((n : Int) - 1 - (-1)).toNat = n by omega]
  congr 2
  funext k
  congr 1
  omega
theorem chosen_ev {d N : Nat} (hd : 0 < d) (h2 : d < 2 ^ 200) (h3 : N < 2 ^ 100) (ths : List (Nat × Rat)) (room : Nat) (t : Tape) (hr : room ≤ 200) (hn : ths.length ≤ 24) (hw : ∀ th ∈ ths, 0 < th.1) (hw2 : ∀ th ∈ ths, th.1 ≤ 1000) (hv : ∀ th ∈ ths, Bd d N th.2) :
    F_rules_chosen [.tup (ths.map fun th => iD th.1), .tup (ths.map fun th => rD th.2), .int room] t = some (.tup ((chs ths ths.length room).reverse.map iD), t) := by
  have hc := check_things_ev ths room t hr hn hw
  let W := some (D.tup (ths.map fun th => iD th.1)); let V := some (D.tup (ths.map fun th => rD th.2))
  have hlots : ∀ (i left : Nat), left ≤ 200 → F_rules_lots_of [.tup ((ths.take i).map fun th => iD th.1), .tup ((ths.take i).map fun th => rD th.2), .int left] t = some (.tup ((List.range (left + 1)).map fun p => rD (lots (ths.take i) p)), t) := fun i left hl =>
    lots_of_ev hd h2 h3 (ths.take i) left t hl (by rw [List.length_take]; omega) (fun th h => hw th (List.mem_of_mem_take h)) (fun th h => hw2 th (List.mem_of_mem_take h)) (fun th h => hv th (List.mem_of_mem_take h))
  have hpl : ∀ i left : Nat, plnL 0 (.tup ((List.range (left + 1)).map fun p => rD (lots (ths.take i) p))) = true := fun i left => pln_tup (n := 8) fun p _ => rfl
  obtain ⟨ρ', t', h1, ht, acc, left, y5, y6, y7, hρ, hl, hacc, hal⟩ := forL_at (g := gmName 5) (sm := chsIn) ((List.range ths.length).map fun (k : Nat) => D.int ((ths.length : Int) - 1 - (k : Int)))
    (fun k ρ t' => t' = t ∧ ∃ (acc : List Nat) (left : Nat) (y5 y6 y7 : Option D), ρ = [W, V, some (.int room), some (.lst (acc.map iD)), some (.int left), y5, y6, y7] ∧ left ≤ room ∧ acc ++ chs ths (ths.length - k) left = chs ths ths.length room ∧ acc.length ≤ k)
    (fun k e ρ t' he ⟨ht, acc, left, y5, y6, y7, hρ, hl, hacc, hal⟩ => by
      subst ht hρ
      have hk : k < ths.length := by
        have := (List.getElem?_eq_some_iff.mp he).1
        simpa using this
      rw [range_at _ hk] at he
      cases he
      generalize hi : ths.length - 1 - k = i
      have hi2 : i < ths.length := by omega
      have ei : (ths.length : Int) - 1 - (k : Int) = (i : Int) := by omega
      rw [ei]
      have ek : ths.length - k = i + 1 := by omega
      rw [ek] at hacc
      have ek2 : ths.length - (k + 1) = i := by omega
      have hth : ths[i]? = some ths[i] := List.getElem?_eq_getElem hi2
      have l1 := hlots i left (by omega)
      have l2 := hlots (i + 1) left (by omega)
      have s1 : cutL (ths.map fun th => iD th.1) none (some ((i : Nat) : Int)) = (ths.take i).map fun th => iD th.1 := by rw [cut_take, List.map_take]
      have s2 : cutL (ths.map fun th => rD th.2) none (some ((i : Nat) : Int)) = (ths.take i).map fun th => rD th.2 := by rw [cut_take, List.map_take]
      have s3 : cutL (ths.map fun th => iD th.1) none (some ((i : Int) + 1)) = (ths.take (i + 1)).map fun th => iD th.1 := by
        have := cut_take (ths.map fun th => iD th.1) (i + 1)
        rw [Int.natCast_add] at this
        rw [List.map_take]; exact this
      have s4 : cutL (ths.map fun th => rD th.2) none (some ((i : Int) + 1)) = (ths.take (i + 1)).map fun th => rD th.2 := by
        have := cut_take (ths.map fun th => rD th.2) (i + 1)
        rw [Int.natCast_add] at this
        rw [List.map_take]; exact this
      have x1 : oIx (.tup ((List.range (left + 1)).map fun p => rD (lots (ths.take i) p))) (.int left) = some (rD (lots (ths.take i) left)) := oIx_tup (by omega) (by rw [Int.toNat_natCast, range_at _ (by omega)])
      have x2 : oIx (.tup ((List.range (left + 1)).map fun p => rD (lots (ths.take (i + 1)) p))) (.int left) = some (rD (lots (ths.take (i + 1)) left)) := oIx_tup (by omega) (by rw [Int.toNat_natCast, range_at _ (by omega)])
      have x3 : oIx (.tup (ths.map fun th => iD th.1)) (.int i) = some (iD ths[i].1) := oIx_tup (by omega) (by rw [Int.toNat_natCast, List.getElem?_map, hth]; rfl)
      have c6 : (mCall 3 0 F_rules_lots_of (mCons (mSl oSlT (mVar 0) mNoO (mO (mVar 5))) (mCons (mSl oSlT (mVar 1) mNoO (mO (mVar 5))) (mCons (mVar 4) mNil)))) [W, V, some (.int room), some (.lst (acc.map iD)), some (.int left), some (.int i), y6, y7] t' = some (.tup ((List.range (left + 1)).map fun p => rD (lots (ths.take (i)) p)), t') := by
        refine mCall_of (ds := [.tup ((ths.take (i)).map fun th => iD th.1), .tup ((ths.take (i)).map fun th => rD th.2), .int left]) (t1 := t') ?_ ?_ ?_ ?_
        rotate_left
        · simp only [List.length_cons, List.length_nil]
        · exact l1
        · exact hpl i left
        simp! [W, V, oSlT, s1, s2]
      have h6 : mSet 6 (mCall 3 0 F_rules_lots_of (mCons (mSl oSlT (mVar 0) mNoO (mO (mVar 5))) (mCons (mSl oSlT (mVar 1) mNoO (mO (mVar 5))) (mCons (mVar 4) mNil)))) [W, V, some (.int room), some (.lst (acc.map iD)), some (.int left), some (.int i), y6, y7] t' = some (.nx [W, V, some (.int room), some (.lst (acc.map iD)), some (.int left), some (.int i), some (.tup ((List.range (left + 1)).map fun p => rD (lots (ths.take i) p))), y7] t') := by
        rw [mSet_of c6]; rfl
      have c7 : (mCall 3 0 F_rules_lots_of (mCons (mSl oSlT (mVar 0) mNoO (mO (mOp oAdd (mVar 5) (mC (.int 1))))) (mCons (mSl oSlT (mVar 1) mNoO (mO (mOp oAdd (mVar 5) (mC (.int 1))))) (mCons (mVar 4) mNil)))) [W, V, some (.int room), some (.lst (acc.map iD)), some (.int left), some (.int i), some (.tup ((List.range (left + 1)).map fun p => rD (lots (ths.take i) p))), y7] t' = some (.tup ((List.range (left + 1)).map fun p => rD (lots (ths.take (i + 1)) p)), t') := by
        refine mCall_of (ds := [.tup ((ths.take (i + 1)).map fun th => iD th.1), .tup ((ths.take (i + 1)).map fun th => rD th.2), .int left]) (t1 := t') ?_ ?_ ?_ ?_
        rotate_left
        · simp only [List.length_cons, List.length_nil]
        · exact l2
        · exact hpl (i + 1) left
        simp! [W, V, oSlT, s3, s4]
      have h7 : mSet 7 (mCall 3 0 F_rules_lots_of (mCons (mSl oSlT (mVar 0) mNoO (mO (mOp oAdd (mVar 5) (mC (.int 1))))) (mCons (mSl oSlT (mVar 1) mNoO (mO (mOp oAdd (mVar 5) (mC (.int 1))))) (mCons (mVar 4) mNil)))) [W, V, some (.int room), some (.lst (acc.map iD)), some (.int left), some (.int i), some (.tup ((List.range (left + 1)).map fun p => rD (lots (ths.take i) p))), y7] t' = some (.nx [W, V, some (.int room), some (.lst (acc.map iD)), some (.int left), some (.int i), some (.tup ((List.range (left + 1)).map fun p => rD (lots (ths.take i) p))), some (.tup ((List.range (left + 1)).map fun p => rD (lots (ths.take (i + 1)) p)))] t') := by
        rw [mSet_of c7]; rfl
      have hex : chs ths (i + 1) left = if lots (ths.take (i + 1)) left ≠ lots (ths.take i) left then i :: chs ths i (left - ths[i].1) else chs ths i left := by
        show (if _ then _ else _) = _
        rw [hth]; rfl
      rw [hex] at hacc
      by_cases c : lots (ths.take (i + 1)) left = lots (ths.take i) left
      · rw [if_neg (fun z => z c)] at hacc
        refine ⟨_, _, rfl, (mSeq_nx h6).trans ((mSeq_nx h7).trans ((mIf_f (t' := t') ?_).trans rfl)), _, _, .inl rfl, rfl, acc, left, some (.int i), some (.tup ((List.range (left + 1)).map fun p => rD (lots (ths.take i) p))), some (.tup ((List.range (left + 1)).map fun p => rD (lots (ths.take (i + 1)) p))), rfl, hl, by rw [ek2]; exact hacc, by omega⟩
        simp! [x1, x2, oNe_rD, c]
      · rw [if_pos c] at hacc
        have hwl : ths[i].1 ≤ left := by
          have e : lots (ths.take (i + 1)) = kstep ths[i].1 ths[i].2 (lots (ths.take i)) := by rw [take_succ hth, lots_snoc]
          rw [e] at c
          exact (kstep_ne c).1
        refine ⟨_, _, rfl, (mSeq_nx h6).trans ((mSeq_nx h7).trans ((mIf_t (t' := t') ?_).trans ?_)), [W, V, some (.int room), some (.lst ((acc ++ [i]).map iD)), some (.int ((left - ths[i].1 : Nat) : Int)), some (.int i), some (.tup ((List.range (left + 1)).map fun p => rD (lots (ths.take i) p))), some (.tup ((List.range (left + 1)).map fun p => rD (lots (ths.take (i + 1)) p)))], t', .inl rfl, rfl, acc ++ [i], left - ths[i].1, some (.int i), some (.tup ((List.range (left + 1)).map fun p => rD (lots (ths.take i) p))), some (.tup ((List.range (left + 1)).map fun p => rD (lots (ths.take (i + 1)) p))), rfl, by omega, by rw [ek2, List.append_assoc]; exact hacc, by rw [List.length_append]; exact Nat.succ_le_succ hal⟩
        · simp! [x1, x2, oNe_rD, c]
        · have hal2 : acc.length ≤ 100000 := by omega
          have e4 : ((left - ths[i].1 : Nat) : Int) = (left : Int) - (ths[i].1 : Int) := by omega
          simp only [iD] at x3
          simp! [mApp, W, x3, hal2, iD, List.map_append, e4])
    (ρ := [W, V, some (.int room), some (.lst (([] : List Nat).map iD)), some (.int room), none, none, none]) (t := t) ⟨rfl, [], room, _, _, _, rfl, Nat.le_refl _, rfl, Nat.le_refl _⟩
  subst ht hρ
  rw [List.length_map, List.length_range, Nat.sub_self] at hacc
  have hacc' : acc = chs ths ths.length room := by
    rw [← hacc]; exact (List.append_nil acc).symm
  refine fnM_rt ?_
  unfold m_rules_chosen
  refine (mSeq_nx (mDrop_of (d := .non) (t' := t') ?_)).trans ((mSeq_nx (?_ : _ = some (Out.nx [W, V, some (.int room), some (.lst (([] : List Nat).map iD)), some (.int room), none, none, none] t'))).trans ((mSeq_nx ((mFor_of (t' := t') (ds := (List.range ths.length).map fun (k : Nat) => D.int ((ths.length : Int) - 1 - (k : Int))) ?_).trans h1)).trans (mRet_of ?_)))
  · simp! [hc]
  · simp! [W, V]
  · simp! [W, dRangeD_all (n := ths.length) (by omega)]
  · simp! [oRev, hacc', List.map_reverse]
end FL.L
set_option maxRecDepth 100000
set_option maxHeartbeats 4000000
namespace FL.K80a
open PySem PySem.Spec PyProof.Rows L2 FL FL.L
def topS (i : Nat) : Stmt := PySem.Challenge.pw_greatsums_k80_whole_lots_as_products.main.body.getD i (.Pass ⟨0, 0, 0, 0⟩)
abbrev s_is_integer : Stmt := topS 7
abbrev N_is_integer : List Str := ["value"]
theorem sc_is_integer : FnScope N_is_integer ["value"] (defScope s_is_integer) := ⟨rfl, rfl, rfl, by decide +kernel, rfl, by decide +kernel, by decide +kernel⟩
abbrev s_divisor : Stmt := topS 9
abbrev N_divisor : List Str := ["one", "other"]
theorem sc_divisor : FnScope N_divisor ["one", "other"] (defScope s_divisor) := ⟨rfl, rfl, rfl, by decide +kernel, rfl, by decide +kernel, by decide +kernel⟩
abbrev s_is_ratio : Stmt := topS 8
abbrev N_is_ratio : List Str := ["value", "item"]
theorem sc_is_ratio : FnScope N_is_ratio ["value"] (defScope s_is_ratio) := ⟨rfl, rfl, rfl, by decide +kernel, rfl, by decide +kernel, by decide +kernel⟩
abbrev sc_is_ratio_1 : Scope := { kind := PySem.ScopeKind.function, names := [(".0", .local), ("item", .local), ("is_integer", .globalImplicit)], isGenerator := false, isCoroutine := false, more := [] }
abbrev s_make : Stmt := topS 10
abbrev N_make : List Str := ["above", "below", "common"]
theorem sc_make : FnScope N_make ["above", "below"] (defScope s_make) := ⟨rfl, rfl, rfl, by decide +kernel, rfl, by decide +kernel, by decide +kernel⟩
abbrev s_add : Stmt := topS 11
abbrev N_add : List Str := ["one", "other"]
theorem sc_add : FnScope N_add ["one", "other"] (defScope s_add) := ⟨rfl, rfl, rfl, by decide +kernel, rfl, by decide +kernel, by decide +kernel⟩
abbrev s_multiply : Stmt := topS 12
abbrev N_multiply : List Str := ["one", "other"]
theorem sc_multiply : FnScope N_multiply ["one", "other"] (defScope s_multiply) := ⟨rfl, rfl, rfl, by decide +kernel, rfl, by decide +kernel, by decide +kernel⟩
abbrev s_less : Stmt := topS 13
abbrev N_less : List Str := ["one", "other"]
theorem sc_less : FnScope N_less ["one", "other"] (defScope s_less) := ⟨rfl, rfl, rfl, by decide +kernel, rfl, by decide +kernel, by decide +kernel⟩
abbrev s_is_value : Stmt := topS 15
abbrev N_is_value : List Str := ["value"]
theorem sc_is_value : FnScope N_is_value ["value"] (defScope s_is_value) := ⟨rfl, rfl, rfl, by decide +kernel, rfl, by decide +kernel, by decide +kernel⟩
abbrev s_is_less : Stmt := topS 16
abbrev N_is_less : List Str := ["one", "other"]
theorem sc_is_less : FnScope N_is_less ["one", "other"] (defScope s_is_less) := ⟨rfl, rfl, rfl, by decide +kernel, rfl, by decide +kernel, by decide +kernel⟩
abbrev s_greater : Stmt := topS 17
abbrev N_greater : List Str := ["one", "other"]
theorem sc_greater : FnScope N_greater ["one", "other"] (defScope s_greater) := ⟨rfl, rfl, rfl, by decide +kernel, rfl, by decide +kernel, by decide +kernel⟩
abbrev s_greatest : Stmt := topS 18
abbrev N_greatest : List Str := ["values", "found", "value"]
theorem sc_greatest : FnScope N_greatest ["values"] (defScope s_greatest) := ⟨rfl, rfl, rfl, by decide +kernel, rfl, by decide +kernel, by decide +kernel⟩
abbrev s_plus : Stmt := topS 19
abbrev N_plus : List Str := ["one", "other"]
theorem sc_plus : FnScope N_plus ["one", "other"] (defScope s_plus) := ⟨rfl, rfl, rfl, by decide +kernel, rfl, by decide +kernel, by decide +kernel⟩
abbrev s_times : Stmt := topS 20
abbrev N_times : List Str := ["value", "number"]
theorem sc_times : FnScope N_times ["value", "number"] (defScope s_times) := ⟨rfl, rfl, rfl, by decide +kernel, rfl, by decide +kernel, by decide +kernel⟩
abbrev s_check_things : Stmt := topS 25
abbrev N_check_things : List Str := ["weights", "worths", "room", "item"]
theorem sc_check_things : FnScope N_check_things ["weights", "worths", "room"] (defScope s_check_things) := ⟨rfl, rfl, rfl, by decide +kernel, rfl, by decide +kernel, by decide +kernel⟩
abbrev sc_check_things_1 : Scope := { kind := PySem.ScopeKind.function, names := [(".0", .local), ("item", .local), ("is_ratio", .globalImplicit)], isGenerator := false, isCoroutine := false, more := [] }
abbrev sc_check_things_2 : Scope := { kind := PySem.ScopeKind.function, names := [(".0", .local), ("item", .local), ("is_integer", .globalImplicit)], isGenerator := false, isCoroutine := false, more := [] }
abbrev s_lots_of : Stmt := topS 23
abbrev N_lots_of : List Str := ["weights", "worths", "room", "found", "weight", "worth", "place", "now"]
theorem sc_lots_of : FnScope N_lots_of ["weights", "worths", "room"] (defScope s_lots_of) := ⟨rfl, rfl, rfl, by decide +kernel, rfl, by decide +kernel, by decide +kernel⟩
abbrev s_chosen : Stmt := topS 24
abbrev N_chosen : List Str := ["weights", "worths", "room", "found", "left", "place", "table", "whole"]
theorem sc_chosen : FnScope N_chosen ["weights", "worths", "room"] (defScope s_chosen) := ⟨rfl, rfl, rfl, by decide +kernel, rfl, by decide +kernel, by decide +kernel⟩
abbrev s_is_poly : Stmt := topS 28
abbrev N_is_poly : List Str := ["value", "item"]
theorem sc_is_poly : FnScope N_is_poly ["value"] (defScope s_is_poly) := ⟨rfl, rfl, rfl, by decide +kernel, rfl, by decide +kernel, by decide +kernel⟩
abbrev sc_is_poly_1 : Scope := { kind := PySem.ScopeKind.function, names := [(".0", .local), ("item", .local), ("is_value", .globalImplicit)], isGenerator := false, isCoroutine := false, more := [] }
abbrev s_check_poly : Stmt := topS 29
abbrev N_check_poly : List Str := ["value"]
theorem sc_check_poly : FnScope N_check_poly ["value"] (defScope s_check_poly) := ⟨rfl, rfl, rfl, by decide +kernel, rfl, by decide +kernel, by decide +kernel⟩
abbrev s_product : Stmt := topS 30
abbrev N_product : List Str := ["one", "other", "found", "k", "left", "j", "right"]
theorem sc_product : FnScope N_product ["one", "other"] (defScope s_product) := ⟨rfl, rfl, rfl, by decide +kernel, rfl, by decide +kernel, by decide +kernel⟩
abbrev s_value : Stmt := topS 31
abbrev N_value : List Str := ["one", "place", "k", "item"]
theorem sc_value : FnScope N_value ["one", "place"] (defScope s_value) := ⟨rfl, rfl, rfl, by decide +kernel, rfl, by decide +kernel, by decide +kernel⟩
abbrev sc_value_1 : Scope := { kind := PySem.ScopeKind.function, names := [(".0", .local), ("k", .local), ("item", .local), ("plus", .globalImplicit), ("times", .globalImplicit), ("place", .free)], isGenerator := false, isCoroutine := false, more := [] }
abbrev sc_value_2 : Scope := { kind := PySem.ScopeKind.function, names := [(".0", .local), ("k", .local), ("item", .local), ("plus", .globalImplicit), ("times", .globalImplicit), ("place", .free)], isGenerator := false, isCoroutine := false, more := [] }
abbrev s__law_tape : Stmt := topS 33
abbrev N__law_tape : List Str := ["script", "seed", "cell"]
theorem sc__law_tape : FnScope N__law_tape ["script"] (defScope s__law_tape) := ⟨rfl, rfl, rfl, by decide +kernel, rfl, by decide +kernel, by decide +kernel⟩
abbrev s__law_draw : Stmt := topS 34
abbrev N__law_draw : List Str := ["tape", "many", "cells", "number"]
theorem sc__law_draw : FnScope N__law_draw ["tape", "many"] (defScope s__law_draw) := ⟨rfl, rfl, rfl, by decide +kernel, rfl, by decide +kernel, by decide +kernel⟩
abbrev s__law_pick : Stmt := topS 35
abbrev N__law_pick : List Str := ["tape", "row"]
theorem sc__law_pick : FnScope N__law_pick ["tape", "row"] (defScope s__law_pick) := ⟨rfl, rfl, rfl, by decide +kernel, rfl, by decide +kernel, by decide +kernel⟩
abbrev s__law_same : Stmt := topS 36
abbrev N__law_same : List Str := ["actual", "due", "k"]
theorem sc__law_same : FnScope N__law_same ["actual", "due"] (defScope s__law_same) := ⟨rfl, rfl, rfl, by decide +kernel, rfl, by decide +kernel, by decide +kernel⟩
abbrev sc__law_same_1 : Scope := { kind := PySem.ScopeKind.function, names := [(".0", .local), ("k", .local), ("_law_same", .globalImplicit), ("actual", .free), ("due", .free)], isGenerator := false, isCoroutine := false, more := [] }
abbrev sc__law_same_2 : Scope := { kind := PySem.ScopeKind.function, names := [(".0", .local), ("k", .local), ("_law_same", .globalImplicit), ("actual", .free), ("due", .free)], isGenerator := false, isCoroutine := false, more := [] }
abbrev s__law_frac : Stmt := topS 37
abbrev N__law_frac : List Str := ["above", "below", "one", "other"]
theorem sc__law_frac : FnScope N__law_frac ["above", "below"] (defScope s__law_frac) := ⟨rfl, rfl, rfl, by decide +kernel, rfl, by decide +kernel, by decide +kernel⟩
abbrev s__law_plus : Stmt := topS 38
abbrev N__law_plus : List Str := ["one", "other"]
theorem sc__law_plus : FnScope N__law_plus ["one", "other"] (defScope s__law_plus) := ⟨rfl, rfl, rfl, by decide +kernel, rfl, by decide +kernel, by decide +kernel⟩
abbrev s__law_below : Stmt := topS 39
abbrev N__law_below : List Str := ["one", "other"]
theorem sc__law_below : FnScope N__law_below ["one", "other"] (defScope s__law_below) := ⟨rfl, rfl, rfl, by decide +kernel, rfl, by decide +kernel, by decide +kernel⟩
abbrev s__law_top : Stmt := topS 40
abbrev N__law_top : List Str := ["values", "found", "item"]
theorem sc__law_top : FnScope N__law_top ["values"] (defScope s__law_top) := ⟨rfl, rfl, rfl, by decide +kernel, rfl, by decide +kernel, by decide +kernel⟩
abbrev s__law_sum : Stmt := topS 41
abbrev N__law_sum : List Str := ["values", "found", "item"]
theorem sc__law_sum : FnScope N__law_sum ["values"] (defScope s__law_sum) := ⟨rfl, rfl, rfl, by decide +kernel, rfl, by decide +kernel, by decide +kernel⟩
abbrev s__law_number : Stmt := topS 42
abbrev N__law_number : List Str := ["tape"]
theorem sc__law_number : FnScope N__law_number ["tape"] (defScope s__law_number) := ⟨rfl, rfl, rfl, by decide +kernel, rfl, by decide +kernel, by decide +kernel⟩
abbrev s_law : Stmt := topS 43
abbrev N_law : List Str := ["script", "tape", "count", "weights", "worths", "whole", "weight", "worth", "room", "rooms", "lot", "k", "place"]
theorem sc_law : FnScope N_law ["script"] (defScope s_law) := ⟨rfl, rfl, rfl, by decide +kernel, rfl, by decide +kernel, by decide +kernel⟩
abbrev sc_law_1 : Scope := { kind := PySem.ScopeKind.function, names := [(".0", .local), ("k", .local), ("_law_draw", .globalImplicit), ("tape", .free)], isGenerator := false, isCoroutine := false, more := [] }
abbrev sc_law_2 : Scope := { kind := PySem.ScopeKind.function, names := [(".0", .local), ("k", .local), ("_law_number", .globalImplicit), ("tape", .free)], isGenerator := false, isCoroutine := false, more := [] }
abbrev sc_law_3 : Scope := { kind := PySem.ScopeKind.function, names := [(".0", .local), ("place", .local), ("_law_top", .globalImplicit), ("whole", .free)], isGenerator := false, isCoroutine := false, more := [] }
abbrev sc_law_4 : Scope := { kind := PySem.ScopeKind.function, names := [(".0", .local), ("worth", .local)], isGenerator := false, isCoroutine := false, more := [] }
abbrev sc_law_5 : Scope := { kind := PySem.ScopeKind.function, names := [(".0", .local), ("k", .local), ("weights", .free)], isGenerator := false, isCoroutine := false, more := [] }
abbrev sc_law_6 : Scope := { kind := PySem.ScopeKind.function, names := [(".0", .local), ("k", .local), ("worths", .free)], isGenerator := false, isCoroutine := false, more := [] }
/-- what the top has left -/
structure Tx (K : PySem.W.Frag) (mg : Str → Option Value) where
  f_is_integer : Addr
  d_is_integer : FuncData
  t_is_integer : Fun K "is_integer" "is_integer" s_is_integer f_is_integer d_is_integer
  g_is_integer : mg "is_integer" = some (.ref f_is_integer)
  b_is_integer : Binds K d_is_integer ["value"] []
  f_divisor : Addr
  d_divisor : FuncData
  t_divisor : Fun K "divisor" "divisor" s_divisor f_divisor d_divisor
  g_divisor : mg "divisor" = some (.ref f_divisor)
  b_divisor : Binds K d_divisor ["one", "other"] []
  f_is_ratio : Addr
  d_is_ratio : FuncData
  t_is_ratio : Fun K "is_ratio" "is_ratio" s_is_ratio f_is_ratio d_is_ratio
  g_is_ratio : mg "is_ratio" = some (.ref f_is_ratio)
  b_is_ratio : Binds K d_is_ratio ["value"] []
  f_make : Addr
  d_make : FuncData
  t_make : Fun K "make" "make" s_make f_make d_make
  g_make : mg "make" = some (.ref f_make)
  b_make : Binds K d_make ["above", "below"] []
  f_add : Addr
  d_add : FuncData
  t_add : Fun K "add" "add" s_add f_add d_add
  g_add : mg "add" = some (.ref f_add)
  b_add : Binds K d_add ["one", "other"] []
  f_multiply : Addr
  d_multiply : FuncData
  t_multiply : Fun K "multiply" "multiply" s_multiply f_multiply d_multiply
  g_multiply : mg "multiply" = some (.ref f_multiply)
  b_multiply : Binds K d_multiply ["one", "other"] []
  f_less : Addr
  d_less : FuncData
  t_less : Fun K "less" "less" s_less f_less d_less
  g_less : mg "less" = some (.ref f_less)
  b_less : Binds K d_less ["one", "other"] []
  f_is_value : Addr
  d_is_value : FuncData
  t_is_value : Fun K "is_value" "is_value" s_is_value f_is_value d_is_value
  g_is_value : mg "is_value" = some (.ref f_is_value)
  b_is_value : Binds K d_is_value ["value"] []
  f_is_less : Addr
  d_is_less : FuncData
  t_is_less : Fun K "is_less" "is_less" s_is_less f_is_less d_is_less
  g_is_less : mg "is_less" = some (.ref f_is_less)
  b_is_less : Binds K d_is_less ["one", "other"] []
  f_greater : Addr
  d_greater : FuncData
  t_greater : Fun K "greater" "greater" s_greater f_greater d_greater
  g_greater : mg "greater" = some (.ref f_greater)
  b_greater : Binds K d_greater ["one", "other"] []
  f_greatest : Addr
  d_greatest : FuncData
  t_greatest : Fun K "greatest" "greatest" s_greatest f_greatest d_greatest
  g_greatest : mg "greatest" = some (.ref f_greatest)
  b_greatest : Binds K d_greatest ["values"] []
  f_plus : Addr
  d_plus : FuncData
  t_plus : Fun K "plus" "plus" s_plus f_plus d_plus
  g_plus : mg "plus" = some (.ref f_plus)
  b_plus : Binds K d_plus ["one", "other"] []
  f_times : Addr
  d_times : FuncData
  t_times : Fun K "times" "times" s_times f_times d_times
  g_times : mg "times" = some (.ref f_times)
  b_times : Binds K d_times ["value", "number"] []
  f_check_things : Addr
  d_check_things : FuncData
  t_check_things : Fun K "check_things" "check_things" s_check_things f_check_things d_check_things
  g_check_things : mg "check_things" = some (.ref f_check_things)
  b_check_things : Binds K d_check_things ["weights", "worths", "room"] []
  f_lots_of : Addr
  d_lots_of : FuncData
  t_lots_of : Fun K "lots_of" "lots_of" s_lots_of f_lots_of d_lots_of
  g_lots_of : mg "lots_of" = some (.ref f_lots_of)
  b_lots_of : Binds K d_lots_of ["weights", "worths", "room"] []
  f_chosen : Addr
  d_chosen : FuncData
  t_chosen : Fun K "chosen" "chosen" s_chosen f_chosen d_chosen
  g_chosen : mg "chosen" = some (.ref f_chosen)
  b_chosen : Binds K d_chosen ["weights", "worths", "room"] []
  f_is_poly : Addr
  d_is_poly : FuncData
  t_is_poly : Fun K "is_poly" "is_poly" s_is_poly f_is_poly d_is_poly
  g_is_poly : mg "is_poly" = some (.ref f_is_poly)
  b_is_poly : Binds K d_is_poly ["value"] []
  f_check_poly : Addr
  d_check_poly : FuncData
  t_check_poly : Fun K "check_poly" "check_poly" s_check_poly f_check_poly d_check_poly
  g_check_poly : mg "check_poly" = some (.ref f_check_poly)
  b_check_poly : Binds K d_check_poly ["value"] []
  f_product : Addr
  d_product : FuncData
  t_product : Fun K "product" "product" s_product f_product d_product
  g_product : mg "product" = some (.ref f_product)
  b_product : Binds K d_product ["one", "other"] []
  f_value : Addr
  d_value : FuncData
  t_value : Fun K "value" "value" s_value f_value d_value
  g_value : mg "value" = some (.ref f_value)
  b_value : Binds K d_value ["one", "place"] []
  f__law_tape : Addr
  d__law_tape : FuncData
  t__law_tape : Fun K "_law_tape" "_law_tape" s__law_tape f__law_tape d__law_tape
  g__law_tape : mg "_law_tape" = some (.ref f__law_tape)
  b__law_tape : Binds K d__law_tape ["script"] []
  f__law_draw : Addr
  d__law_draw : FuncData
  t__law_draw : Fun K "_law_draw" "_law_draw" s__law_draw f__law_draw d__law_draw
  g__law_draw : mg "_law_draw" = some (.ref f__law_draw)
  b__law_draw : Binds K d__law_draw ["tape", "many"] []
  f__law_pick : Addr
  d__law_pick : FuncData
  t__law_pick : Fun K "_law_pick" "_law_pick" s__law_pick f__law_pick d__law_pick
  g__law_pick : mg "_law_pick" = some (.ref f__law_pick)
  b__law_pick : Binds K d__law_pick ["tape", "row"] []
  f__law_same : Addr
  d__law_same : FuncData
  t__law_same : Fun K "_law_same" "_law_same" s__law_same f__law_same d__law_same
  g__law_same : mg "_law_same" = some (.ref f__law_same)
  b__law_same : Binds K d__law_same ["actual", "due"] []
  f__law_frac : Addr
  d__law_frac : FuncData
  t__law_frac : Fun K "_law_frac" "_law_frac" s__law_frac f__law_frac d__law_frac
  g__law_frac : mg "_law_frac" = some (.ref f__law_frac)
  b__law_frac : Binds K d__law_frac ["above", "below"] []
  f__law_plus : Addr
  d__law_plus : FuncData
  t__law_plus : Fun K "_law_plus" "_law_plus" s__law_plus f__law_plus d__law_plus
  g__law_plus : mg "_law_plus" = some (.ref f__law_plus)
  b__law_plus : Binds K d__law_plus ["one", "other"] []
  f__law_below : Addr
  d__law_below : FuncData
  t__law_below : Fun K "_law_below" "_law_below" s__law_below f__law_below d__law_below
  g__law_below : mg "_law_below" = some (.ref f__law_below)
  b__law_below : Binds K d__law_below ["one", "other"] []
  f__law_top : Addr
  d__law_top : FuncData
  t__law_top : Fun K "_law_top" "_law_top" s__law_top f__law_top d__law_top
  g__law_top : mg "_law_top" = some (.ref f__law_top)
  b__law_top : Binds K d__law_top ["values"] []
  f__law_sum : Addr
  d__law_sum : FuncData
  t__law_sum : Fun K "_law_sum" "_law_sum" s__law_sum f__law_sum d__law_sum
  g__law_sum : mg "_law_sum" = some (.ref f__law_sum)
  b__law_sum : Binds K d__law_sum ["values"] []
  f__law_number : Addr
  d__law_number : FuncData
  t__law_number : Fun K "_law_number" "_law_number" s__law_number f__law_number d__law_number
  g__law_number : mg "_law_number" = some (.ref f__law_number)
  b__law_number : Binds K d__law_number ["tape"] []
  f_law : Addr
  d_law : FuncData
  t_law : Fun K "law" "law" s_law f_law d_law
  g_law : mg "law" = some (.ref f_law)
  b_law : Binds K d_law ["script"] []
  z_abs : mg "abs" = none
  z_all : mg "all" = none
  z_bool : mg "bool" = none
  z_enumerate : mg "enumerate" = none
  z_int : mg "int" = none
  z_isinstance : mg "isinstance" = none
  z_len : mg "len" = none
  z_range : mg "range" = none
  z_str : mg "str" = none
  z_sum : mg "sum" = none
  z_tuple : mg "tuple" = none
  z_zip : mg "zip" = none
  c_MOST_DEGREE : GC K mg "MOST_DEGREE" d_polys_MOST_DEGREE
  c_MOST_RULES : GC K mg "MOST_RULES" d_rules_MOST_RULES
  c_ZERO : GC K mg "ZERO" d_ratios_ZERO
section
variable {P : Program} {w : World} {K : PySem.W.Frag} {mg : Str → Option Value} {base : Heap}
theorem ok_is_integer (T : Tx K mg) : FnOk P w K mg base CX0 1 T.f_is_integer T.d_is_integer ["value"] (spD K 1 0 F_ratios_is_integer) :=
  fn_ok (N := N_is_integer) (fl0 := [0]) T.t_is_integer sc_is_integer (fun cdv A outer s H E tp B hr => ⟨[0], (fss_one (fs_ret (fe_and (fe_isi "int" rfl T.z_isinstance rfl T.z_int boot_int' (fe_var 0) (.inl rfl)) (fe_one (fe_not (fe_isi "bool" rfl T.z_isinstance rfl T.z_bool boot_bool' (fe_var 0) (.inr (.inl rfl))))))))⟩)
theorem ok_divisor (T : Tx K mg) : FnOk P w K mg base CX0 1 T.f_divisor T.d_divisor ["one", "other"] (spD K 2 0 F_ratios_divisor) :=
  fn_ok (N := N_divisor) (fl0 := [0, 0]) T.t_divisor sc_divisor (fun cdv A outer s H E tp B hr => ⟨[0, 0], (fss_cons (fl1 := [0, 0]) (fs_par2 (fl' := [0, 0]) 0 1 (n1 := 0) (n2 := 0) rfl sc_divisor.nd (fe_callB call_abs cd_abs rfl T.z_abs boot_abs' (fa_cons (FE.brw (fe_var 0)) fa_nil)) (fe_callB call_abs cd_abs rfl T.z_abs boot_abs' (fa_cons (FE.brw (fe_var 1)) fa_nil)) (by rfl)) (fss_cons (fl1 := [0, 0]) (fs_while (fun ρ _ => match ρ[1]? with | some (some (D.int o)) => o.toNat + 1 | _ => 0) PassesOwn.never (ft_cmp op_gt od_gt (FE.brw (fe_var 1)) (FE.brw fe_int)) (fss_one (fs_par2 (fl' := [0, 0]) 0 1 (n1 := 0) (n2 := 0) rfl sc_divisor.nd (fe_var 1) (fe_op op_mod od_mod (FE.brw (fe_var 0)) (FE.brw (fe_var 1))) (by rfl)))) (fss_one (fs_ret (fe_var 0)))))⟩)
theorem ok_is_ratio (T : Tx K mg) : FnOk P w K mg base CX0 2 T.f_is_ratio T.d_is_ratio ["value"] (spD K 1 0 F_ratios_is_ratio) :=
  fn_ok (N := N_is_ratio) (fl0 := [0, 0]) T.t_is_ratio sc_is_ratio (fun cdv A outer s H E tp B hr => ⟨[0, 0], (fss_cons (fl1 := [0, 0]) (fs_if (FW.ft (fw_or (ft_not (ft_val (fe_isi "tuple" rfl T.z_isinstance rfl T.z_tuple boot_tuple' (fe_var 0) (.inr (.inr (.inl rfl)))))) (fw_or (ft_cmp (op_neD hr.units) od_ne (FE.brw (fe_callB cr_lenA cd_len rfl T.z_len boot_len' (fa_cons (FE.brw (fe_var 0)) fa_nil))) (FE.brw fe_int)) (fw_or1 (ft_not (ft_val (fe_callB (cr_all rfl) cd_all rfl T.z_all boot_all' (fa_cons (FE.brw (fe_lc (own := [("item", 1)]) (ws := [1]) (fl1 := [0, 0]) (n := 0) rfl sc_is_ratio.nd (fi_any (fe_var 0)) (blkOk_by (N := N_is_ratio) (sc := (defScope s_is_ratio)) (by decide +kernel)) (fun _ _ _ _ _ _ => (fg_name (fl' := [0, 0]) 1 sc_is_ratio.nd)) (fun _ _ _ _ _ _ => fts_nil) (fun _ _ _ _ _ _ => (fe_call (ok_is_integer T) (hr.mono (by omega)) rfl T.g_is_integer T.t_is_integer.kp T.b_is_integer pass0 (fa_cons (FE.brw (fe_var 1)) fa_nil))) (by decide) (by decide))) fa_nil)))))))) (fss_one (fs_ret fe_bl)) fss_nil) (fss_one (fs_ret (fe_and (fe_cmp op_gt od_gt (FE.brw (fe_ix (FE.l0 (fe_var 0)) (FE.brw fe_int))) (FE.brw fe_int)) (fe_one (fe_cmp (op_eqD hr.units) od_eq (FE.brw (fe_call (ok_divisor T) (hr.mono (by omega)) rfl T.g_divisor T.t_divisor.kp T.b_divisor pass0 (fa_cons (FE.brw (fe_ix (FE.l0 (fe_var 0)) (FE.brw fe_int))) (fa_cons (FE.brw (fe_ix (FE.l0 (fe_var 0)) (FE.brw fe_int))) fa_nil)))) (FE.brw fe_int)))))))⟩)
theorem ok_make (T : Tx K mg) : FnOk P w K mg base CX0 2 T.f_make T.d_make ["above", "below"] (spD K 2 0 F_ratios_make) :=
  fn_ok (N := N_make) (fl0 := [0, 0, 0]) T.t_make sc_make (fun cdv A outer s H E tp B hr => ⟨[0, 0, 0], (fss_cons (fl1 := [0, 0, 0]) (fs_if (ft_cmp (op_eqD hr.units) od_eq (FE.brw (fe_var 1)) (FE.brw fe_int)) (fss_one fs_never) fss_nil) (fss_cons (fl1 := [0, 0, 0]) (fs_set (fl' := [0, 0, 0]) 2 (n := 0) sc_make.nd (fe_call (ok_divisor T) (hr.mono (by omega)) rfl T.g_divisor T.t_divisor.kp T.b_divisor pass0 (fa_cons (FE.brw (fe_var 0)) (fa_cons (FE.brw (fe_var 1)) fa_nil)))) (fss_cons (fl1 := [0, 0, 0]) (fs_if (ft_cmp op_lt od_lt (FE.brw (fe_var 1)) (FE.brw fe_int)) (fss_one (fs_set (fl' := [0, 0, 0]) 2 (n := 0) sc_make.nd (fe_neg (fe_var 2)))) fss_nil) (fss_one (fs_ret (fe_tup (fa_cons (fe_op op_divA od_div (FE.brw (fe_var 0)) (FE.brw (fe_var 2))) (fa_cons (fe_op op_divA od_div (FE.brw (fe_var 1)) (FE.brw (fe_var 2))) fa_nil))))))))⟩)
theorem ok_add (T : Tx K mg) : FnOk P w K mg base CX0 3 T.f_add T.d_add ["one", "other"] (spD K 2 0 F_ratios_add) :=
  fn_ok (N := N_add) (fl0 := [0, 0]) T.t_add sc_add (fun cdv A outer s H E tp B hr => ⟨[0, 0], (fss_one (fs_ret (fe_call (ok_make T) (hr.mono (by omega)) rfl T.g_make T.t_make.kp T.b_make pass0 (fa_cons (FE.brw (fe_op op_addA od_add (FE.l0 (fe_op op_mulA od_mul (FE.l0 (fe_ix (FE.l0 (fe_var 0)) (FE.brw fe_int))) (FE.brw (fe_ix (FE.l0 (fe_var 1)) (FE.brw fe_int))))) (FE.l0 (fe_op op_mulA od_mul (FE.l0 (fe_ix (FE.l0 (fe_var 1)) (FE.brw fe_int))) (FE.brw (fe_ix (FE.l0 (fe_var 0)) (FE.brw fe_int))))))) (fa_cons (FE.brw (fe_op op_mulA od_mul (FE.l0 (fe_ix (FE.l0 (fe_var 0)) (FE.brw fe_int))) (FE.brw (fe_ix (FE.l0 (fe_var 1)) (FE.brw fe_int))))) fa_nil)))))⟩)
theorem ok_multiply (T : Tx K mg) : FnOk P w K mg base CX0 3 T.f_multiply T.d_multiply ["one", "other"] (spD K 2 0 F_ratios_multiply) :=
  fn_ok (N := N_multiply) (fl0 := [0, 0]) T.t_multiply sc_multiply (fun cdv A outer s H E tp B hr => ⟨[0, 0], (fss_one (fs_ret (fe_call (ok_make T) (hr.mono (by omega)) rfl T.g_make T.t_make.kp T.b_make pass0 (fa_cons (FE.brw (fe_op op_mulA od_mul (FE.l0 (fe_ix (FE.l0 (fe_var 0)) (FE.brw fe_int))) (FE.brw (fe_ix (FE.l0 (fe_var 1)) (FE.brw fe_int))))) (fa_cons (FE.brw (fe_op op_mulA od_mul (FE.l0 (fe_ix (FE.l0 (fe_var 0)) (FE.brw fe_int))) (FE.brw (fe_ix (FE.l0 (fe_var 1)) (FE.brw fe_int))))) fa_nil)))))⟩)
theorem ok_less (T : Tx K mg) : FnOk P w K mg base CX0 1 T.f_less T.d_less ["one", "other"] (spD K 2 0 F_ratios_less) :=
  fn_ok (N := N_less) (fl0 := [0, 0]) T.t_less sc_less (fun cdv A outer s H E tp B hr => ⟨[0, 0], (fss_one (fs_ret (fe_cmp op_lt od_lt (FE.brw (fe_op op_mulA od_mul (FE.l0 (fe_ix (FE.l0 (fe_var 0)) (FE.brw fe_int))) (FE.brw (fe_ix (FE.l0 (fe_var 1)) (FE.brw fe_int))))) (FE.brw (fe_op op_mulA od_mul (FE.l0 (fe_ix (FE.l0 (fe_var 1)) (FE.brw fe_int))) (FE.brw (fe_ix (FE.l0 (fe_var 0)) (FE.brw fe_int))))))))⟩)
theorem ok_is_value (T : Tx K mg) : FnOk P w K mg base CX0 3 T.f_is_value T.d_is_value ["value"] (spD K 1 0 F_values_is_value) :=
  fn_ok (N := N_is_value) (fl0 := [0]) T.t_is_value sc_is_value (fun cdv A outer s H E tp B hr => ⟨[0], (fss_one (fs_ret (fe_or (fe_cmp op_isA od_is (FE.brw (fe_var 0)) (FE.brw fe_non)) (fe_one (fe_call (ok_is_ratio T) (hr.mono (by omega)) rfl T.g_is_ratio T.t_is_ratio.kp T.b_is_ratio pass0 (fa_cons (FE.brw (fe_var 0)) fa_nil))))))⟩)
theorem ok_is_less (T : Tx K mg) : FnOk P w K mg base CX0 2 T.f_is_less T.d_is_less ["one", "other"] (spD K 2 0 F_values_is_less) :=
  fn_ok (N := N_is_less) (fl0 := [0, 0]) T.t_is_less sc_is_less (fun cdv A outer s H E tp B hr => ⟨[0, 0], (fss_cons (fl1 := [0, 0]) (fs_if (FW.ft (fw_or (ft_cmp op_isA od_is (FE.brw (fe_var 0)) (FE.brw fe_non)) (fw_or1 (ft_cmp op_isA od_is (FE.brw (fe_var 1)) (FE.brw fe_non))))) (fss_one (fs_ret (fe_and (fe_cmp op_isA od_is (FE.brw (fe_var 0)) (FE.brw fe_non)) (fe_one (fe_cmp op_isNotA od_isNot (FE.brw (fe_var 1)) (FE.brw fe_non)))))) fss_nil) (fss_one (fs_ret (fe_call (ok_less T) (hr.mono (by omega)) rfl T.g_less T.t_less.kp T.b_less pass0 (fa_cons (FE.brw (fe_var 0)) (fa_cons (FE.brw (fe_var 1)) fa_nil))))))⟩)
theorem ok_greater (T : Tx K mg) : FnOk P w K mg base CX0 3 T.f_greater T.d_greater ["one", "other"] (spD K 2 0 F_values_greater) :=
  fn_ok (N := N_greater) (fl0 := [0, 0]) T.t_greater sc_greater (fun cdv A outer s H E tp B hr => ⟨[0, 0], (fss_one (fs_ret (fe_if (ft_val (fe_call (ok_is_less T) (hr.mono (by omega)) rfl T.g_is_less T.t_is_less.kp T.b_is_less pass0 (fa_cons (FE.brw (fe_var 0)) (fa_cons (FE.brw (fe_var 1)) fa_nil)))) (fe_var 1) (fe_var 0))))⟩)
theorem ok_greatest (T : Tx K mg) : FnOk P w K mg base CX0 4 T.f_greatest T.d_greatest ["values"] (spD K 1 0 F_values_greatest) :=
  fn_ok (N := N_greatest) (fl0 := [0, 0, 0]) T.t_greatest sc_greatest (fun cdv A outer s H E tp B hr => ⟨[0, 0, 0], (fss_cons (fl1 := [0, 0, 0]) (fs_set (fl' := [0, 0, 0]) 1 (n := 0) sc_greatest.nd fe_non) (fss_cons (fl1 := [0, 0, 0]) (fs_for (ws := [2]) (fl1 := [0, 0, 0]) PassesOwn.never rfl (fi_any (fe_var 0)) (fun _ => (fg_name (fl' := [0, 0, 0]) 2 sc_greatest.nd)) (fun _ => (fss_one (fs_set (fl' := [0, 0, 0]) 1 (n := 0) sc_greatest.nd (fe_call (ok_greater T) (hr.mono (by omega)) rfl T.g_greater T.t_greater.kp T.b_greater pass0 (fa_cons (FE.brw (fe_var 1)) (fa_cons (FE.brw (fe_var 2)) fa_nil))))))) (fss_one (fs_ret (fe_var 1)))))⟩)
theorem ok_plus (T : Tx K mg) : FnOk P w K mg base CX0 4 T.f_plus T.d_plus ["one", "other"] (spD K 2 0 F_values_plus) :=
  fn_ok (N := N_plus) (fl0 := [0, 0]) T.t_plus sc_plus (fun cdv A outer s H E tp B hr => ⟨[0, 0], (fss_one (fs_ret (fe_if (FW.ft (fw_or (ft_cmp op_isA od_is (FE.brw (fe_var 0)) (FE.brw fe_non)) (fw_or1 (ft_cmp op_isA od_is (FE.brw (fe_var 1)) (FE.brw fe_non))))) fe_non (fe_call (ok_add T) (hr.mono (by omega)) rfl T.g_add T.t_add.kp T.b_add pass0 (fa_cons (FE.brw (fe_var 0)) (fa_cons (FE.brw (fe_var 1)) fa_nil))))))⟩)
theorem ok_times (T : Tx K mg) : FnOk P w K mg base CX0 4 T.f_times T.d_times ["value", "number"] (spD K 2 0 F_values_times) :=
  fn_ok (N := N_times) (fl0 := [0, 0]) T.t_times sc_times (fun cdv A outer s H E tp B hr => ⟨[0, 0], (fss_cons (fl1 := [0, 0]) (fs_if (ft_cmp (op_eqD hr.units) od_eq (FE.brw (fe_var 1)) (FE.brw fe_int)) (fss_one (fs_ret (fe_gc T.c_ZERO rfl))) fss_nil) (fss_one (fs_ret (fe_if (ft_cmp op_isA od_is (FE.brw (fe_var 0)) (FE.brw fe_non)) fe_non (fe_call (ok_multiply T) (hr.mono (by omega)) rfl T.g_multiply T.t_multiply.kp T.b_multiply pass0 (fa_cons (FE.brw (fe_var 0)) (fa_cons (FE.brw (fe_tup (fa_cons (fe_var 1) (fa_cons fe_int fa_nil)))) fa_nil)))))))⟩)
theorem ok_check_things (T : Tx K mg) : FnOk P w K mg base CX0 3 T.f_check_things T.d_check_things ["weights", "worths", "room"] (spD K 3 0 F_rules_check_things) :=
  fn_ok (N := N_check_things) (fl0 := [0, 0, 0, 0]) T.t_check_things sc_check_things (fun cdv A outer s H E tp B hr => ⟨[0, 0, 0, 0], (fss_cons (fl1 := [0, 0, 0, 0]) (fs_if (FW.ft (fw_or (ft_not (ft_val (fe_call (ok_is_integer T) (hr.mono (by omega)) rfl T.g_is_integer T.t_is_integer.kp T.b_is_integer pass0 (fa_cons (FE.brw (fe_var 2)) fa_nil)))) (fw_or (ft_cmp op_lt od_lt (FE.brw (fe_var 2)) (FE.brw fe_int)) (fw_or1 (ft_cmp op_gt od_gt (FE.brw (fe_var 2)) (FE.brw fe_int)))))) (fss_one fs_never) fss_nil) (fss_cons (fl1 := [0, 0, 0, 0]) (fs_if (FW.ft (fw_or (ft_not (ft_val (fe_isi "tuple" rfl T.z_isinstance rfl T.z_tuple boot_tuple' (fe_var 0) (.inr (.inr (.inl rfl)))))) (fw_or1 (ft_not (ft_val (fe_isi "tuple" rfl T.z_isinstance rfl T.z_tuple boot_tuple' (fe_var 1) (.inr (.inr (.inl rfl))))))))) (fss_one fs_never) fss_nil) (fss_cons (fl1 := [0, 0, 0, 0]) (fs_if (FW.ft (fw_or (ft_cmp (op_neD hr.units) od_ne (FE.brw (fe_callB cr_lenA cd_len rfl T.z_len boot_len' (fa_cons (FE.brw (fe_var 0)) fa_nil))) (FE.brw (fe_callB cr_lenA cd_len rfl T.z_len boot_len' (fa_cons (FE.brw (fe_var 1)) fa_nil)))) (fw_or (ft_cmp op_gt od_gt (FE.brw (fe_callB cr_lenA cd_len rfl T.z_len boot_len' (fa_cons (FE.brw (fe_var 0)) fa_nil))) (FE.brw (fe_gc T.c_MOST_RULES rfl))) (fw_or1 (ft_not (ft_val (fe_callB (cr_all rfl) cd_all rfl T.z_all boot_all' (fa_cons (FE.brw (fe_lc (own := [("item", 3)]) (ws := [3]) (fl1 := [0, 0, 0, 0]) (n := 0) rfl sc_check_things.nd (fi_any (fe_var 1)) (blkOk_by (N := N_check_things) (sc := (defScope s_check_things)) (by decide +kernel)) (fun _ _ _ _ _ _ => (fg_name (fl' := [0, 0, 0, 0]) 3 sc_check_things.nd)) (fun _ _ _ _ _ _ => fts_nil) (fun _ _ _ _ _ _ => (fe_call (ok_is_ratio T) (hr.mono (by omega)) rfl T.g_is_ratio T.t_is_ratio.kp T.b_is_ratio pass0 (fa_cons (FE.brw (fe_var 3)) fa_nil))) (by decide) (by decide))) fa_nil)))))))) (fss_one fs_never) fss_nil) (fss_one (fs_if (ft_not (ft_val (fe_callB (cr_all rfl) cd_all rfl T.z_all boot_all' (fa_cons (FE.brw (fe_lc (own := [("item", 3)]) (ws := [3]) (fl1 := [0, 0, 0, 0]) (n := 0) rfl sc_check_things.nd (fi_any (fe_var 0)) (blkOk_by (N := N_check_things) (sc := (defScope s_check_things)) (by decide +kernel)) (fun _ _ _ _ _ _ => (fg_name (fl' := [0, 0, 0, 0]) 3 sc_check_things.nd)) (fun _ _ _ _ _ _ => fts_nil) (fun _ _ _ _ _ _ => (fe_and (fe_call (ok_is_integer T) (hr.mono (by omega)) rfl T.g_is_integer T.t_is_integer.kp T.b_is_integer pass0 (fa_cons (FE.brw (fe_var 3)) fa_nil)) (fe_one (fe_cmp op_gt od_gt (FE.brw (fe_var 3)) (FE.brw fe_int))))) (by decide) (by decide))) fa_nil)))) (fss_one fs_never) fss_nil)))))⟩)
theorem ok_lots_of (T : Tx K mg) : FnOk P w K mg base CX0 5 T.f_lots_of T.d_lots_of ["weights", "worths", "room"] (spD K 3 0 F_rules_lots_of) :=
  fn_ok (N := N_lots_of) (fl0 := [0, 0, 0, 0, 0, 0, 0, 0]) T.t_lots_of sc_lots_of (fun cdv A outer s H E tp B hr => ⟨[0, 0, 0, 0, 0, 0, 0, 0], (fss_cons (fl1 := [0, 0, 0, 0, 0, 0, 0, 0]) (fs_expr (fe_call (ok_check_things T) (hr.mono (by omega)) rfl T.g_check_things T.t_check_things.kp T.b_check_things pass0 (fa_cons (FE.brw (fe_var 0)) (fa_cons (FE.brw (fe_var 1)) (fa_cons (FE.brw (fe_var 2)) fa_nil))))) (fss_cons (fl1 := [0, 0, 0, 1, 0, 0, 0, 0]) (fs_set (fl' := [0, 0, 0, 1, 0, 0, 0, 0]) 3 (n := 1) sc_lots_of.nd (fe_op op_rep od_rep (FE.l1 (fe_lst (fa_cons (fe_gc T.c_ZERO rfl) fa_nil))) (FE.brw (fe_op op_addA od_add (FE.l0 (fe_var 2)) (FE.l0 fe_int))))) (fss_cons (fl1 := [0, 0, 0, 1, 0, 0, 0, 0]) (fs_for (ws := [4, 5]) (fl1 := [0, 0, 0, 1, 0, 0, 0, 0]) PassesOwn.never rfl (fi_zip rfl T.z_zip (fa_cons (fe_var 0) (fa_cons (fe_var 1) fa_nil))) (fun _ => (fg_tup rfl (fgs_cons (fg_name (fl' := [0, 0, 0, 1, 0, 0, 0, 0]) 4 sc_lots_of.nd) (fgs_cons (fg_name (fl' := [0, 0, 0, 1, 0, 0, 0, 0]) 5 sc_lots_of.nd) fgs_nil (.inr (by decide))) (.inr (by decide))))) (fun _ => (fss_one (fs_for (ws := [6]) (fl1 := [0, 0, 0, 1, 0, 0, 0, 0]) PassesOwn.never rfl (fi_rangeD rfl T.z_range (fa_cons (FE.brw (fe_var 2)) (fa_cons (FE.brw (fe_op op_sub od_sub (FE.brw (fe_var 4)) (FE.brw fe_int))) (fa_cons (FE.brw (fe_neg fe_int)) fa_nil)))) (fun _ => (fg_name (fl' := [0, 0, 0, 1, 0, 0, 0, 0]) 6 sc_lots_of.nd)) (fun _ => (fss_cons (fl1 := [0, 0, 0, 1, 0, 0, 0, 0]) (fs_set (fl' := [0, 0, 0, 1, 0, 0, 0, 0]) 7 (n := 0) sc_lots_of.nd (fe_call (ok_plus T) (hr.mono (by omega)) rfl T.g_plus T.t_plus.kp T.b_plus pass0 (fa_cons (FE.brw (fe_ix (FE.lw (fe_varW 3 (n := 1))) (FE.brw (fe_op op_sub od_sub (FE.brw (fe_var 6)) (FE.brw (fe_var 4)))))) (fa_cons (FE.brw (fe_var 5)) fa_nil)))) (fss_one (fs_setI 3 (n := 0) rfl (fe_if (ft_val (fe_call (ok_is_less T) (hr.mono (by omega)) rfl T.g_is_less T.t_is_less.kp T.b_is_less pass0 (fa_cons (FE.brw (fe_ix (FE.lw (fe_varW 3 (n := 1))) (FE.brw (fe_var 6)))) (fa_cons (FE.brw (fe_var 7)) fa_nil)))) (fe_var 7) (fe_ix (FE.lw (fe_varW 3 (n := 1))) (FE.brw (fe_var 6)))) (fe_var 6))))))))) (fss_one (fs_ret (fe_callTy call_tuple_of cd_tuple rfl T.z_tuple boot_tuple' (fa_cons (FE.lw (fe_varW 3 (n := 1))) fa_nil)))))))⟩)
theorem ok_chosen (T : Tx K mg) : FnOk P w K mg base CX0 6 T.f_chosen T.d_chosen ["weights", "worths", "room"] (spD K 3 0 F_rules_chosen) :=
  fn_ok (N := N_chosen) (fl0 := [0, 0, 0, 0, 0, 0, 0, 0]) T.t_chosen sc_chosen (fun cdv A outer s H E tp B hr => ⟨[0, 0, 0, 0, 0, 0, 0, 0], (fss_cons (fl1 := [0, 0, 0, 0, 0, 0, 0, 0]) (fs_expr (fe_call (ok_check_things T) (hr.mono (by omega)) rfl T.g_check_things T.t_check_things.kp T.b_check_things pass0 (fa_cons (FE.brw (fe_var 0)) (fa_cons (FE.brw (fe_var 1)) (fa_cons (FE.brw (fe_var 2)) fa_nil))))) (fss_cons (fl1 := [0, 0, 0, 1, 0, 0, 0, 0]) (fs_par2 (fl' := [0, 0, 0, 1, 0, 0, 0, 0]) 3 4 (n1 := 1) (n2 := 0) rfl sc_chosen.nd (fe_lst fa_nil) (fe_var 2) (by rfl)) (fss_cons (fl1 := [0, 0, 0, 1, 0, 0, 0, 0]) (fs_for (ws := [5]) (fl1 := [0, 0, 0, 1, 0, 0, 0, 0]) PassesOwn.never rfl (fi_rangeD rfl T.z_range (fa_cons (FE.brw (fe_op op_sub od_sub (FE.brw (fe_callB cr_lenA cd_len rfl T.z_len boot_len' (fa_cons (FE.brw (fe_var 0)) fa_nil))) (FE.brw fe_int))) (fa_cons (FE.brw (fe_neg fe_int)) (fa_cons (FE.brw (fe_neg fe_int)) fa_nil)))) (fun _ => (fg_name (fl' := [0, 0, 0, 1, 0, 0, 0, 0]) 5 sc_chosen.nd)) (fun _ => (fss_cons (fl1 := [0, 0, 0, 1, 0, 0, 0, 0]) (fs_set (fl' := [0, 0, 0, 1, 0, 0, 0, 0]) 6 (n := 0) sc_chosen.nd (fe_call (ok_lots_of T) (hr.mono (by omega)) rfl T.g_lots_of T.t_lots_of.kp T.b_lots_of pass0 (fa_cons (FE.brw (fe_slT (FE.l0 (fe_var 0)) fo_none (fo_some (fe_var 5)))) (fa_cons (FE.brw (fe_slT (FE.l0 (fe_var 1)) fo_none (fo_some (fe_var 5)))) (fa_cons (FE.brw (fe_var 4)) fa_nil))))) (fss_cons (fl1 := [0, 0, 0, 1, 0, 0, 0, 0]) (fs_set (fl' := [0, 0, 0, 1, 0, 0, 0, 0]) 7 (n := 0) sc_chosen.nd (fe_call (ok_lots_of T) (hr.mono (by omega)) rfl T.g_lots_of T.t_lots_of.kp T.b_lots_of pass0 (fa_cons (FE.brw (fe_slT (FE.l0 (fe_var 0)) fo_none (fo_some (fe_op op_addA od_add (FE.l0 (fe_var 5)) (FE.l0 fe_int))))) (fa_cons (FE.brw (fe_slT (FE.l0 (fe_var 1)) fo_none (fo_some (fe_op op_addA od_add (FE.l0 (fe_var 5)) (FE.l0 fe_int))))) (fa_cons (FE.brw (fe_var 4)) fa_nil))))) (fss_one (fs_if (ft_cmp (op_neD hr.units) od_ne (FE.brw (fe_ix (FE.l0 (fe_var 7)) (FE.brw (fe_var 4)))) (FE.brw (fe_ix (FE.l0 (fe_var 6)) (FE.brw (fe_var 4))))) (fss_cons (fl1 := [0, 0, 0, 1, 0, 0, 0, 0]) (fs_append 3 (n := 0) rfl (fe_var 5)) (fss_one (fs_aug (fl' := [0, 0, 0, 1, 0, 0, 0, 0]) 4 sc_chosen.nd (fe_ix (FE.l0 (fe_var 0)) (FE.brw (fe_var 5))) ip_sub))) fss_nil)))))) (fss_one (fs_ret (fe_callTy call_tuple_of cd_tuple rfl T.z_tuple boot_tuple' (fa_cons (FE.l1 (fe_rev (FE.lw (fe_varW 3 (n := 1))))) fa_nil)))))))⟩)
theorem ok_is_poly (T : Tx K mg) : FnOk P w K mg base CX0 4 T.f_is_poly T.d_is_poly ["value"] (spD K 1 0 F_polys_is_poly) :=
  fn_ok (N := N_is_poly) (fl0 := [0, 0]) T.t_is_poly sc_is_poly (fun cdv A outer s H E tp B hr => ⟨[0, 0], (fss_cons (fl1 := [0, 0]) (fs_if (FW.ft (fw_or (ft_not (ft_val (fe_isi "tuple" rfl T.z_isinstance rfl T.z_tuple boot_tuple' (fe_var 0) (.inr (.inr (.inl rfl)))))) (fw_or (ft_cmp op_gt od_gt (FE.brw (fe_callB cr_lenA cd_len rfl T.z_len boot_len' (fa_cons (FE.brw (fe_var 0)) fa_nil))) (FE.brw (fe_op op_addA od_add (FE.l0 (fe_gc T.c_MOST_DEGREE rfl)) (FE.l0 fe_int)))) (fw_or1 (ft_not (ft_val (fe_callB (cr_all rfl) cd_all rfl T.z_all boot_all' (fa_cons (FE.brw (fe_lc (own := [("item", 1)]) (ws := [1]) (fl1 := [0, 0]) (n := 0) rfl sc_is_poly.nd (fi_any (fe_var 0)) (blkOk_by (N := N_is_poly) (sc := (defScope s_is_poly)) (by decide +kernel)) (fun _ _ _ _ _ _ => (fg_name (fl' := [0, 0]) 1 sc_is_poly.nd)) (fun _ _ _ _ _ _ => fts_nil) (fun _ _ _ _ _ _ => (fe_call (ok_is_value T) (hr.mono (by omega)) rfl T.g_is_value T.t_is_value.kp T.b_is_value pass0 (fa_cons (FE.brw (fe_var 1)) fa_nil))) (by decide) (by decide))) fa_nil)))))))) (fss_one (fs_ret fe_bl)) fss_nil) (fss_one (fs_ret (fe_or (fe_cmp (op_eqD hr.units) od_eq (FE.brw (fe_var 0)) (FE.brw (fe_tup fa_nil))) (fe_one (fe_cmp op_isNotA od_isNot (FE.brw (fe_ix (FE.l0 (fe_var 0)) (FE.brw (fe_neg fe_int)))) (FE.brw fe_non)))))))⟩)
theorem ok_check_poly (T : Tx K mg) : FnOk P w K mg base CX0 5 T.f_check_poly T.d_check_poly ["value"] (spD K 1 0 F_polys_check_poly) :=
  fn_ok (N := N_check_poly) (fl0 := [0]) T.t_check_poly sc_check_poly (fun cdv A outer s H E tp B hr => ⟨[0], (fss_one (fs_if (ft_not (ft_val (fe_call (ok_is_poly T) (hr.mono (by omega)) rfl T.g_is_poly T.t_is_poly.kp T.b_is_poly pass0 (fa_cons (FE.brw (fe_var 0)) fa_nil)))) (fss_one fs_never) fss_nil))⟩)
theorem ok_product (T : Tx K mg) : FnOk P w K mg base CX0 6 T.f_product T.d_product ["one", "other"] (spD K 2 0 F_polys_product) :=
  fn_ok (N := N_product) (fl0 := [0, 0, 0, 0, 0, 0, 0]) T.t_product sc_product (fun cdv A outer s H E tp B hr => ⟨[0, 0, 0, 0, 0, 0, 0], (fss_cons (fl1 := [0, 0, 0, 0, 0, 0, 0]) (fs_expr (fe_call (ok_check_poly T) (hr.mono (by omega)) rfl T.g_check_poly T.t_check_poly.kp T.b_check_poly pass0 (fa_cons (FE.brw (fe_var 0)) fa_nil))) (fss_cons (fl1 := [0, 0, 0, 0, 0, 0, 0]) (fs_expr (fe_call (ok_check_poly T) (hr.mono (by omega)) rfl T.g_check_poly T.t_check_poly.kp T.b_check_poly pass0 (fa_cons (FE.brw (fe_var 1)) fa_nil))) (fss_cons (fl1 := [0, 0, 0, 0, 0, 0, 0]) (fs_if (FW.ft (fw_or (ft_cmp (op_eqD hr.units) od_eq (FE.brw (fe_var 0)) (FE.brw (fe_tup fa_nil))) (fw_or1 (ft_cmp (op_eqD hr.units) od_eq (FE.brw (fe_var 1)) (FE.brw (fe_tup fa_nil)))))) (fss_one (fs_ret (fe_tup fa_nil))) fss_nil) (fss_cons (fl1 := [0, 0, 0, 0, 0, 0, 0]) (fs_if (ft_cmp op_gt od_gt (FE.brw (fe_op op_sub od_sub (FE.brw (fe_op op_addA od_add (FE.l0 (fe_callB cr_lenA cd_len rfl T.z_len boot_len' (fa_cons (FE.brw (fe_var 0)) fa_nil))) (FE.l0 (fe_callB cr_lenA cd_len rfl T.z_len boot_len' (fa_cons (FE.brw (fe_var 1)) fa_nil))))) (FE.brw fe_int))) (FE.brw (fe_gc T.c_MOST_DEGREE rfl))) (fss_one fs_never) fss_nil) (fss_cons (fl1 := [0, 0, 1, 0, 0, 0, 0]) (fs_set (fl' := [0, 0, 1, 0, 0, 0, 0]) 2 (n := 1) sc_product.nd (fe_op op_rep od_rep (FE.l1 (fe_lst (fa_cons fe_non fa_nil))) (FE.brw (fe_op op_sub od_sub (FE.brw (fe_op op_addA od_add (FE.l0 (fe_callB cr_lenA cd_len rfl T.z_len boot_len' (fa_cons (FE.brw (fe_var 0)) fa_nil))) (FE.l0 (fe_callB cr_lenA cd_len rfl T.z_len boot_len' (fa_cons (FE.brw (fe_var 1)) fa_nil))))) (FE.brw fe_int))))) (fss_cons (fl1 := [0, 0, 1, 0, 0, 0, 0]) (fs_for (ws := [3, 4]) (fl1 := [0, 0, 1, 0, 0, 0, 0]) PassesOwn.never rfl (fi_enum rfl T.z_enumerate (fa_cons (fe_var 0) fa_nil)) (fun _ => (fg_tup rfl (fgs_cons (fg_name (fl' := [0, 0, 1, 0, 0, 0, 0]) 3 sc_product.nd) (fgs_cons (fg_name (fl' := [0, 0, 1, 0, 0, 0, 0]) 4 sc_product.nd) fgs_nil (.inr (by decide))) (.inr (by decide))))) (fun _ => (fss_one (fs_for (ws := [5, 6]) (fl1 := [0, 0, 1, 0, 0, 0, 0]) PassesOwn.never rfl (fi_enum rfl T.z_enumerate (fa_cons (fe_var 1) fa_nil)) (fun _ => (fg_tup rfl (fgs_cons (fg_name (fl' := [0, 0, 1, 0, 0, 0, 0]) 5 sc_product.nd) (fgs_cons (fg_name (fl' := [0, 0, 1, 0, 0, 0, 0]) 6 sc_product.nd) fgs_nil (.inr (by decide))) (.inr (by decide))))) (fun _ => (fss_one (fs_setI 2 (n := 0) rfl (fe_call (ok_greater T) (hr.mono (by omega)) rfl T.g_greater T.t_greater.kp T.b_greater pass0 (fa_cons (FE.brw (fe_ix (FE.lw (fe_varW 2 (n := 1))) (FE.brw (fe_op op_addA od_add (FE.l0 (fe_var 3)) (FE.l0 (fe_var 5)))))) (fa_cons (FE.brw (fe_call (ok_plus T) (hr.mono (by omega)) rfl T.g_plus T.t_plus.kp T.b_plus pass0 (fa_cons (FE.brw (fe_var 4)) (fa_cons (FE.brw (fe_var 6)) fa_nil)))) fa_nil))) (fe_op op_addA od_add (FE.l0 (fe_var 3)) (FE.l0 (fe_var 5)))))))))) (fss_one (fs_ret (fe_callTy call_tuple_of cd_tuple rfl T.z_tuple boot_tuple' (fa_cons (FE.lw (fe_varW 2 (n := 1))) fa_nil))))))))))⟩)
theorem ok_value (T : Tx K mg) : FnOk P w K mg base CX0 6 T.f_value T.d_value ["one", "place"] (spD K 2 0 F_polys_value) :=
  fn_ok (N := N_value) (fl0 := [0, 0, 0, 0]) T.t_value sc_value (fun cdv A outer s H E tp B hr => ⟨[0, 0, 0, 0], (fss_cons (fl1 := [0, 0, 0, 0]) (fs_expr (fe_call (ok_check_poly T) (hr.mono (by omega)) rfl T.g_check_poly T.t_check_poly.kp T.b_check_poly pass0 (fa_cons (FE.brw (fe_var 0)) fa_nil))) (fss_one (fs_ret (fe_call (ok_greatest T) (hr.mono (by omega)) rfl T.g_greatest T.t_greatest.kp T.b_greatest pass0 (fa_cons (FE.brw (fe_lc (own := [("k", 2), ("item", 3)]) (ws := [2, 3]) (fl1 := [0, 0, 0, 0]) (n := 0) rfl sc_value.nd (fi_enum rfl T.z_enumerate (fa_cons (fe_var 0) fa_nil)) (blkOk_by (N := N_value) (sc := (defScope s_value)) (by decide +kernel)) (fun _ _ _ _ _ _ => (fg_tup rfl (fgs_cons (fg_name (fl' := [0, 0, 0, 0]) 2 sc_value.nd) (fgs_cons (fg_name (fl' := [0, 0, 0, 0]) 3 sc_value.nd) fgs_nil (.inr (by decide))) (.inr (by decide))))) (fun _ _ _ _ _ _ => fts_nil) (fun _ _ _ _ _ _ => (fe_call (ok_plus T) (hr.mono (by omega)) rfl T.g_plus T.t_plus.kp T.b_plus pass0 (fa_cons (FE.brw (fe_var 3)) (fa_cons (FE.brw (fe_call (ok_times T) (hr.mono (by omega)) rfl T.g_times T.t_times.kp T.b_times pass0 (fa_cons (FE.brw (fe_var 1)) (fa_cons (FE.brw (fe_var 2)) fa_nil)))) fa_nil)))) (by decide) (by decide))) fa_nil)))))⟩)
theorem ok__law_tape (T : Tx K mg) : FnOk P w K mg base CX0 1 T.f__law_tape T.d__law_tape ["script"] (spTape K) :=
  T.t__law_tape.ok sc__law_tape (fun vs H Q E ⟨a, ns, h1, h2, h3, h4⟩ => by rw [h1]; rfl) (fun cdv A outer s H vs Q E hr h => ⟨tTape K,
    (pss_cons (ps_set sc__law_tape.nd rfl (Or.inl rfl) pe_int)
    (pss_cons (ps_for PassesOwn.never rfl (pi_list (pe_var rfl (Or.inl rfl))) (pg_name sc__law_tape.nd rfl (Or.inl rfl)) (pss_one (ps_set sc__law_tape.nd rfl (Or.inl rfl) (pe_op op_mod (pe_callTy call_int1 rfl T.z_int boot_int' (pa_cons (pe_op op_add (pe_op op_mulW (pe_var rfl (Or.inl rfl)) pe_int) (pe_var rfl (Or.inl rfl))) pa_nil)) pe_int))))
    (pss_one (ps_ret (pe_lst (pa_cons (pe_lc (own := [("cell", 2)]) rfl sc__law_tape.nd (pi_list (pe_var rfl (Or.inl rfl))) (blkOk_by (N := N__law_tape) (sc := defScope s__law_tape) (by decide +kernel)) (fun _ _ _ _ _ => pg_name sc__law_tape.nd rfl (Or.inl rfl)) (fun _ _ _ _ _ => pts_nil)
      (fun _ _ _ _ _ => pe_callB call_abs rfl T.z_abs boot_abs' (pa_cons (pe_callTy call_int1 rfl T.z_int boot_int' (pa_cons (pe_var rfl (Or.inl rfl)) pa_nil)) pa_nil)))
      (pa_cons (pe_op op_add (pe_var rfl (Or.inl rfl)) pe_int) pa_nil))))))), tape_run h rfl⟩)
theorem ok__law_draw (T : Tx K mg) : FnOk P w K mg base CX0 1 T.f__law_draw T.d__law_draw ["tape", "many"] (spD K 2 0 F_draw) :=
  T.t__law_draw.ok sc__law_draw (fun vs H Q E ⟨tp, t, ds, d, t', h1, h2, h3, h4, h5⟩ => by rw [h3.1, h2]; rfl) (fun cdv A outer s H vs Q E hr h => ⟨tDraw K,
    (pss_cons (ps_set sc__law_draw.nd rfl (Or.inl rfl) (pe_ix ix_seq (pe_var rfl (Or.inl rfl)) pe_int (fun _ _ => rfl)))
    (pss_cons (ps_while PassesOwn.never (PW.pt (pw_and (pt_cmp (pc_gt (pe_callB cr_lenA rfl T.z_len boot_len' (pa_cons (pe_var rfl (Or.inl rfl)) pa_nil)) pe_int)) (pw_and1 (pt_cmp (pc_eqI (pe_ix ix_seq (pe_var rfl (Or.inl rfl)) pe_int (fun _ _ => rfl)) pe_int)))))
      (pss_one (ps_expr (pe_bm PySem.F.plainAttrs_list PySem.F.slot_list_pop PySem.F.type_list_pop mt_popAt (pe_var rfl (Or.inl rfl)) (pa_cons pe_int pa_nil)))))
    (pss_cons (ps_if (pt_cmp (pc_gt (pe_callB cr_lenA rfl T.z_len boot_len' (pa_cons (pe_var rfl (Or.inl rfl)) pa_nil)) pe_int))
      (pss_cons (ps_set sc__law_draw.nd rfl (Or.inl rfl) (pe_ix ix_seq (pe_var rfl (Or.inl rfl)) pe_int (fun _ _ => rfl)))
      (pss_cons (ps_asg (pe_op op_fdivW (pe_var rfl (Or.inl rfl)) (pe_var rfl (Or.inl rfl))) (pg_sub (pe_var rfl (Or.inl rfl)) pe_int set_list))
      (pss_one (ps_ret (pe_op op_mod (pe_callTy call_int1 rfl T.z_int boot_int' (pa_cons (pe_var rfl (Or.inl rfl)) pa_nil)) (pe_var rfl (Or.inl rfl))))))) pss_nil)
    (pss_cons (ps_asg (pe_op op_mod (pe_callTy call_int1 rfl T.z_int boot_int' (pa_cons (pe_op op_add (pe_op op_mulW (pe_ix ix_seq (pe_var rfl (Or.inl rfl)) pe_int (fun _ _ => rfl)) pe_int) pe_int) pa_nil)) pe_int) (pg_sub (pe_var rfl (Or.inl rfl)) pe_int set_list))
    (pss_one (ps_ret (pe_op op_mod (pe_callTy call_int1 rfl T.z_int boot_int' (pa_cons (pe_op op_fdivW (pe_ix ix_seq (pe_var rfl (Or.inl rfl)) pe_int (fun _ _ => rfl)) pe_int) pa_nil)) (pe_var rfl (Or.inl rfl))))))))), draw_run h rfl⟩)
theorem ok__law_pick (T : Tx K mg) : FnOk P w K mg base CX0 2 T.f__law_pick T.d__law_pick ["tape", "row"] (spD K 2 0 F_law_pick) :=
  fn_ok (N := N__law_pick) (fl0 := [0, 0]) T.t__law_pick sc__law_pick (fun cdv A outer s H E tp B hr => ⟨[0, 0], (fss_one (fs_ret (fe_ix (FE.l0 (fe_var 1)) (FE.brw (fe_call (ok__law_draw T) (hr.mono (by omega)) rfl T.g__law_draw T.t__law_draw.kp T.b__law_draw pass0 (fa_cons (FE.brw (fe_var 0)) (fa_cons (FE.brw (fe_callB cr_lenA cd_len rfl T.z_len boot_len' (fa_cons (FE.brw (fe_var 1)) fa_nil))) fa_nil)))))))⟩)
theorem ok__law_same_n (T : Tx K mg) : ∀ n : Nat, FnOk P w K mg base CX0 (0 + n) T.f__law_same T.d__law_same ["actual", "due"] (spD K 2 0 (F_law_same_n n))
  | 0 => ⟨fun vs H Q E ⟨tp, t, ds, d, t', h1, h2, h3, h4, h5⟩ => by rw [h3.1, h2]; rfl, fun A outer s H args us vs Q E hr e0 hb hv ⟨tp, t, ds, d, t', h1, h2, h3, h4, h5⟩ => by cases h4⟩
  | n + 1 => by
    have F_rec : FnOk P w K mg base CX0 (0 + n) T.f__law_same T.d__law_same ["actual", "due"] (spD K 2 0 (F_law_same_n n)) := ok__law_same_n T n
    exact fn_ok (N := N__law_same) (fl0 := [0, 0, 0]) T.t__law_same sc__law_same (fun cdv A outer s H E tp B hr => ⟨[0, 0, 0], (fss_cons (fl1 := [0, 0, 0]) (fs_if (ft_cmp op_isA od_is (FE.brw (fe_var 1)) (FE.brw fe_non)) (fss_one (fs_ret (fe_cmp op_isA od_is (FE.brw (fe_var 0)) (FE.brw fe_non)))) fss_nil) (fss_cons (fl1 := [0, 0, 0]) (fs_if (ft_val (fe_isi "bool" rfl T.z_isinstance rfl T.z_bool boot_bool' (fe_var 1) (.inr (.inl rfl)))) (fss_one (fs_ret (fe_and (fe_isi "bool" rfl T.z_isinstance rfl T.z_bool boot_bool' (fe_var 0) (.inr (.inl rfl))) (fe_one (fe_cmp (op_eqD hr.units) od_eq (FE.brw (fe_var 0)) (FE.brw (fe_var 1))))))) fss_nil) (fss_cons (fl1 := [0, 0, 0]) (fs_if (ft_val (fe_isi "tuple" rfl T.z_isinstance rfl T.z_tuple boot_tuple' (fe_var 1) (.inr (.inr (.inl rfl))))) (fss_cons (fl1 := [0, 0, 0]) (fs_if (FW.ft (fw_or (ft_not (ft_val (fe_isi "tuple" rfl T.z_isinstance rfl T.z_tuple boot_tuple' (fe_var 0) (.inr (.inr (.inl rfl)))))) (fw_or1 (ft_cmp (op_neD hr.units) od_ne (FE.brw (fe_callB cr_lenA cd_len rfl T.z_len boot_len' (fa_cons (FE.brw (fe_var 0)) fa_nil))) (FE.brw (fe_callB cr_lenA cd_len rfl T.z_len boot_len' (fa_cons (FE.brw (fe_var 1)) fa_nil))))))) (fss_one (fs_ret fe_bl)) fss_nil) (fss_one (fs_ret (fe_callB (cr_all rfl) cd_all rfl T.z_all boot_all' (fa_cons (FE.brw (fe_lc (own := [("k", 2)]) (ws := [2]) (fl1 := [0, 0, 0]) (n := 0) rfl sc__law_same.nd (fi_range1 rfl T.z_range (fa_cons (FE.brw (fe_callB cr_lenA cd_len rfl T.z_len boot_len' (fa_cons (FE.brw (fe_var 1)) fa_nil))) fa_nil)) (blkOk_by (N := N__law_same) (sc := (defScope s__law_same)) (by decide +kernel)) (fun _ _ _ _ _ _ => (fg_name (fl' := [0, 0, 0]) 2 sc__law_same.nd)) (fun _ _ _ _ _ _ => fts_nil) (fun _ _ _ _ _ _ => (fe_call F_rec (hr.mono (Nat.le_refl _)) rfl T.g__law_same T.t__law_same.kp T.b__law_same pass0 (fa_cons (FE.brw (fe_ix (FE.l0 (fe_var 0)) (FE.brw (fe_var 2)))) (fa_cons (FE.brw (fe_ix (FE.l0 (fe_var 1)) (FE.brw (fe_var 2)))) fa_nil)))) (by decide) (by decide))) fa_nil))))) fss_nil) (fss_cons (fl1 := [0, 0, 0]) (fs_if (ft_val (fe_isi "str" rfl T.z_isinstance rfl T.z_str boot_str' (fe_var 1) (.inr (.inr (.inr rfl))))) (fss_one (fs_ret (fe_and (fe_isi "str" rfl T.z_isinstance rfl T.z_str boot_str' (fe_var 0) (.inr (.inr (.inr rfl)))) (fe_one (fe_cmp (op_eqD hr.units) od_eq (FE.brw (fe_var 0)) (FE.brw (fe_var 1))))))) fss_nil) (fss_one (fs_ret (fe_and (fe_isi "int" rfl T.z_isinstance rfl T.z_int boot_int' (fe_var 0) (.inl rfl)) (fe_and (fe_not (fe_isi "bool" rfl T.z_isinstance rfl T.z_bool boot_bool' (fe_var 0) (.inr (.inl rfl)))) (fe_one (fe_cmp (op_eqD hr.units) od_eq (FE.brw (fe_var 0)) (FE.brw (fe_var 1))))))))))))⟩)
theorem ok__law_same (T : Tx K mg) : FnOk P w K mg base CX0 7 T.f__law_same T.d__law_same ["actual", "due"] (spD K 2 0 F_law_same) := ok__law_same_n T 7
theorem ok__law_frac (T : Tx K mg) : FnOk P w K mg base CX0 1 T.f__law_frac T.d__law_frac ["above", "below"] (spD K 2 0 F_law_frac) :=
  fn_ok (N := N__law_frac) (fl0 := [0, 0, 0, 0]) T.t__law_frac sc__law_frac (fun cdv A outer s H E tp B hr => ⟨[0, 0, 0, 0], (fss_cons (fl1 := [0, 0, 0, 0]) (fs_par2 (fl' := [0, 0, 0, 0]) 2 3 (n1 := 0) (n2 := 0) rfl sc__law_frac.nd (fe_callB call_abs cd_abs rfl T.z_abs boot_abs' (fa_cons (FE.brw (fe_var 0)) fa_nil)) (fe_callB call_abs cd_abs rfl T.z_abs boot_abs' (fa_cons (FE.brw (fe_var 1)) fa_nil)) (by rfl)) (fss_cons (fl1 := [0, 0, 0, 0]) (fs_while (fun ρ _ => match ρ[3]? with | some (some (D.int o)) => o.toNat + 1 | _ => 0) PassesOwn.never (ft_cmp op_gt od_gt (FE.brw (fe_var 3)) (FE.brw fe_int)) (fss_one (fs_par2 (fl' := [0, 0, 0, 0]) 2 3 (n1 := 0) (n2 := 0) rfl sc__law_frac.nd (fe_var 3) (fe_op op_mod od_mod (FE.brw (fe_var 2)) (FE.brw (fe_var 3))) (by rfl)))) (fss_one (fs_ret (fe_if (ft_cmp op_gt od_gt (FE.brw (fe_var 1)) (FE.brw fe_int)) (fe_tup (fa_cons (fe_op op_divA od_div (FE.brw (fe_var 0)) (FE.brw (fe_var 2))) (fa_cons (fe_op op_divA od_div (FE.brw (fe_var 1)) (FE.brw (fe_var 2))) fa_nil))) (fe_tup (fa_cons (fe_op op_divA od_div (FE.brw (fe_neg (fe_var 0))) (FE.brw (fe_var 2))) (fa_cons (fe_op op_divA od_div (FE.brw (fe_neg (fe_var 1))) (FE.brw (fe_var 2))) fa_nil))))))))⟩)
theorem ok__law_plus (T : Tx K mg) : FnOk P w K mg base CX0 2 T.f__law_plus T.d__law_plus ["one", "other"] (spD K 2 0 F_law_plus) :=
  fn_ok (N := N__law_plus) (fl0 := [0, 0]) T.t__law_plus sc__law_plus (fun cdv A outer s H E tp B hr => ⟨[0, 0], (fss_cons (fl1 := [0, 0]) (fs_if (FW.ft (fw_or (ft_cmp op_isA od_is (FE.brw (fe_var 0)) (FE.brw fe_non)) (fw_or1 (ft_cmp op_isA od_is (FE.brw (fe_var 1)) (FE.brw fe_non))))) (fss_one (fs_ret fe_non)) fss_nil) (fss_one (fs_ret (fe_call (ok__law_frac T) (hr.mono (by omega)) rfl T.g__law_frac T.t__law_frac.kp T.b__law_frac pass0 (fa_cons (FE.brw (fe_op op_addA od_add (FE.l0 (fe_op op_mulA od_mul (FE.l0 (fe_ix (FE.l0 (fe_var 0)) (FE.brw fe_int))) (FE.brw (fe_ix (FE.l0 (fe_var 1)) (FE.brw fe_int))))) (FE.l0 (fe_op op_mulA od_mul (FE.l0 (fe_ix (FE.l0 (fe_var 1)) (FE.brw fe_int))) (FE.brw (fe_ix (FE.l0 (fe_var 0)) (FE.brw fe_int))))))) (fa_cons (FE.brw (fe_op op_mulA od_mul (FE.l0 (fe_ix (FE.l0 (fe_var 0)) (FE.brw fe_int))) (FE.brw (fe_ix (FE.l0 (fe_var 1)) (FE.brw fe_int))))) fa_nil))))))⟩)
theorem ok__law_below (T : Tx K mg) : FnOk P w K mg base CX0 1 T.f__law_below T.d__law_below ["one", "other"] (spD K 2 0 F_law_below) :=
  fn_ok (N := N__law_below) (fl0 := [0, 0]) T.t__law_below sc__law_below (fun cdv A outer s H E tp B hr => ⟨[0, 0], (fss_cons (fl1 := [0, 0]) (fs_if (FW.ft (fw_or (ft_cmp op_isA od_is (FE.brw (fe_var 0)) (FE.brw fe_non)) (fw_or1 (ft_cmp op_isA od_is (FE.brw (fe_var 1)) (FE.brw fe_non))))) (fss_one (fs_ret (fe_and (fe_cmp op_isA od_is (FE.brw (fe_var 0)) (FE.brw fe_non)) (fe_one (fe_cmp op_isNotA od_isNot (FE.brw (fe_var 1)) (FE.brw fe_non)))))) fss_nil) (fss_one (fs_ret (fe_cmp op_lt od_lt (FE.brw (fe_op op_mulA od_mul (FE.l0 (fe_ix (FE.l0 (fe_var 0)) (FE.brw fe_int))) (FE.brw (fe_ix (FE.l0 (fe_var 1)) (FE.brw fe_int))))) (FE.brw (fe_op op_mulA od_mul (FE.l0 (fe_ix (FE.l0 (fe_var 1)) (FE.brw fe_int))) (FE.brw (fe_ix (FE.l0 (fe_var 0)) (FE.brw fe_int)))))))))⟩)
theorem ok__law_top (T : Tx K mg) : FnOk P w K mg base CX0 2 T.f__law_top T.d__law_top ["values"] (spD K 1 0 F_law_top) :=
  fn_ok (N := N__law_top) (fl0 := [0, 0, 0]) T.t__law_top sc__law_top (fun cdv A outer s H E tp B hr => ⟨[0, 0, 0], (fss_cons (fl1 := [0, 0, 0]) (fs_set (fl' := [0, 0, 0]) 1 (n := 0) sc__law_top.nd fe_non) (fss_cons (fl1 := [0, 0, 0]) (fs_for (ws := [2]) (fl1 := [0, 0, 0]) PassesOwn.never rfl (fi_any (fe_var 0)) (fun _ => (fg_name (fl' := [0, 0, 0]) 2 sc__law_top.nd)) (fun _ => (fss_one (fs_set (fl' := [0, 0, 0]) 1 (n := 0) sc__law_top.nd (fe_if (ft_val (fe_call (ok__law_below T) (hr.mono (by omega)) rfl T.g__law_below T.t__law_below.kp T.b__law_below pass0 (fa_cons (FE.brw (fe_var 1)) (fa_cons (FE.brw (fe_var 2)) fa_nil)))) (fe_var 2) (fe_var 1)))))) (fss_one (fs_ret (fe_var 1)))))⟩)
theorem ok__law_sum (T : Tx K mg) : FnOk P w K mg base CX0 3 T.f__law_sum T.d__law_sum ["values"] (spD K 1 0 F_law_sum) :=
  fn_ok (N := N__law_sum) (fl0 := [0, 0, 0]) T.t__law_sum sc__law_sum (fun cdv A outer s H E tp B hr => ⟨[0, 0, 0], (fss_cons (fl1 := [0, 0, 0]) (fs_set (fl' := [0, 0, 0]) 1 (n := 0) sc__law_sum.nd (fe_tup (fa_cons fe_int (fa_cons fe_int fa_nil)))) (fss_cons (fl1 := [0, 0, 0]) (fs_for (ws := [2]) (fl1 := [0, 0, 0]) PassesOwn.never rfl (fi_any (fe_var 0)) (fun _ => (fg_name (fl' := [0, 0, 0]) 2 sc__law_sum.nd)) (fun _ => (fss_one (fs_set (fl' := [0, 0, 0]) 1 (n := 0) sc__law_sum.nd (fe_call (ok__law_plus T) (hr.mono (by omega)) rfl T.g__law_plus T.t__law_plus.kp T.b__law_plus pass0 (fa_cons (FE.brw (fe_var 1)) (fa_cons (FE.brw (fe_var 2)) fa_nil))))))) (fss_one (fs_ret (fe_var 1)))))⟩)
theorem ok__law_number (T : Tx K mg) : FnOk P w K mg base CX0 3 T.f__law_number T.d__law_number ["tape"] (spD K 1 0 F_law_number) :=
  fn_ok (N := N__law_number) (fl0 := [0]) T.t__law_number sc__law_number (fun cdv A outer s H E tp B hr => ⟨[0], (fss_one (fs_ret (fe_call (ok__law_frac T) (hr.mono (by omega)) rfl T.g__law_frac T.t__law_frac.kp T.b__law_frac pass0 (fa_cons (FE.brw (fe_op op_sub od_sub (FE.brw (fe_call (ok__law_draw T) (hr.mono (by omega)) rfl T.g__law_draw T.t__law_draw.kp T.b__law_draw pass0 (fa_cons (FE.brw (fe_var 0)) (fa_cons (FE.brw fe_int) fa_nil)))) (FE.brw fe_int))) (fa_cons (FE.brw (fe_call (ok__law_pick T) (hr.mono (by omega)) rfl T.g__law_pick T.t__law_pick.kp T.b__law_pick pass0 (fa_cons (FE.brw (fe_var 0)) (fa_cons (FE.brw (fe_lst (fa_cons fe_int (fa_cons fe_int (fa_cons fe_int (fa_cons fe_int fa_nil)))))) fa_nil)))) fa_nil)))))⟩)
noncomputable def m_law : SM :=
  (mSeq (mSet 2 (mCall 2 0 F_draw (mCons (mVar 1) (mCons (mC (.int 6)) mNil)))) (mSeq (mSet 3 (mCallB gTuple (mCons (mLc (mIter dRange1 (mCons (mVar 2) mNil)) (gmName 11) mYes (mOp oAdd (mC (.int 1)) (mCall 2 0 F_draw (mCons (mVar 1) (mCons (mC (.int 5)) mNil)))) [11]) mNil))) (mSeq (mSet 4 (mCallB gTuple (mCons (mLc (mIter dRange1 (mCons (mVar 2) mNil)) (gmName 11) mYes (mCall 1 0 F_law_number (mCons (mVar 1) mNil)) [11]) mNil))) (mSeq (mSet 5 (mTup (mCons (mTup (mCons (mC (.int 0)) (mCons (mC (.int 1)) mNil))) mNil))) (mSeq (mFor (mIter dZipA (mCons (mVar 3) (mCons (mVar 4) mNil))) (gmTup 2 (gmCons (gmName 6) (gmCons (gmName 7) gmNil))) (mSet 5 (mCall 2 0 F_polys_product (mCons (mVar 5) (mCons (mOp oAdd (mOp oAdd (mTup (mCons (mTup (mCons (mC (.int 0)) (mCons (mC (.int 1)) mNil))) mNil)) (mOp oMul (mTup (mCons (mC .non) mNil)) (mOp oSub (mVar 6) (mC (.int 1))))) (mTup (mCons (mVar 7) mNil))) mNil))))) (mSeq (mSet 8 (mCall 2 0 F_draw (mCons (mVar 1) (mCons (mC (.int 30)) mNil)))) (mSeq (mSet 9 (mCall 3 0 F_rules_lots_of (mCons (mVar 3) (mCons (mVar 4) (mCons (mVar 8) mNil))))) (mSeq (mIf (mNot (mTst (mCall 2 0 F_law_same (mCons (mVar 9) (mCons (mCallB gTuple (mCons (mLc (mIter dRange1 (mCons (mOp oAdd (mVar 8) (mC (.int 1))) mNil)) (gmName 12) mYes (mCall 1 0 F_law_top (mCons (mSl oSlT (mVar 5) mNoO (mO (mOp oAdd (mVar 12) (mC (.int 1))))) mNil)) [12]) mNil)) mNil))))) (mRet (mC (.bl false))) mSkip) (mSeq (mIf (mNot (mTst (mCall 2 0 F_law_same (mCons (mCall 2 0 F_polys_value (mCons (mVar 5) (mCons (mTup (mCons (mC (.int 0)) (mCons (mC (.int 1)) mNil))) mNil))) (mCons (mCall 1 0 F_law_sum (mCons (mLc (mIt (mVar 4)) (gmName 7) (mTst (mOp oGt (mOp oIx (mVar 7) (mC (.int 0))) (mC (.int 0)))) (mVar 7) [7]) mNil)) mNil))))) (mRet (mC (.bl false))) mSkip) (mSeq (mSet 10 (mCall 3 0 F_rules_chosen (mCons (mVar 3) (mCons (mVar 4) (mCons (mVar 8) mNil))))) (mSeq (mPar2 6 7 (mCallB gSum (mCons (mLc (mIt (mVar 10)) (gmName 11) mYes (mOp oIx (mVar 3) (mVar 11)) [11]) mNil)) (mCall 1 0 F_law_sum (mCons (mLc (mIt (mVar 10)) (gmName 11) mYes (mOp oIx (mVar 4) (mVar 11)) [11]) mNil))) (mRet (mAndV (mOp oLe (mVar 6) (mVar 8)) (mAndV (mOp oEq (mVar 7) (mOp oIx (mVar 9) (mVar 8))) (mAndV (mNotV (mCall 2 0 F_law_below (mCons (mOp oIx (mVar 5) (mVar 6)) (mCons (mVar 7) mNil)))) (mOp oEq (mOp oIx (mVar 5) (mVar 6)) (mOp oIx (mVar 9) (mVar 8))))))))))))))))))
theorem ok_law (T : Tx K mg) (plain : ∀ ns : List Int, ns.length ≤ 63 → ∃ t', m_law (lawE 13 1) (tapeOf ns) = some (.rt (.bl true) t')) : FnOk P w K mg base CX0 8 T.f_law T.d_law ["script"] (spLaw K) :=
  fl_law (N := N_law) (i := 1) (fl0 := [0, 0, 0, 0, 0, 0, 0, 0, 0, 0, 0, 0, 0]) T.t_law sc_law (ok__law_tape T) T.t__law_tape.kp T.b__law_tape T.g__law_tape (by decide) rfl rfl (by decide) (fun cdv A outer s H E te h => ps_set sc_law.nd rfl (by first | exact Or.inl rfl | exact Or.inr rfl) h) (fun cdv A outer s H E hr => pe_call (ok__law_tape T) (hr.mono (by decide)) rfl T.g__law_tape T.t__law_tape.kp T.b__law_tape .nil pass0 (pa_cons (pe_var rfl (by first | exact Or.inl rfl | exact Or.inr (Or.inl rfl))) pa_nil)) (fun cdv A outer s H E tp B hr => ⟨[0, 0, 0, 0, 0, 0, 0, 0, 0, 0, 0, 0, 0], (fss_cons (fl1 := [0, 0, 0, 0, 0, 0, 0, 0, 0, 0, 0, 0, 0]) (fs_set (fl' := [0, 0, 0, 0, 0, 0, 0, 0, 0, 0, 0, 0, 0]) 2 (n := 0) sc_law.nd (fe_call (ok__law_draw T) (hr.mono (by omega)) rfl T.g__law_draw T.t__law_draw.kp T.b__law_draw pass0 (fa_cons (FE.brw (fe_var 1)) (fa_cons (FE.brw fe_int) fa_nil)))) (fss_cons (fl1 := [0, 0, 0, 0, 0, 0, 0, 0, 0, 0, 0, 0, 0]) (fs_set (fl' := [0, 0, 0, 0, 0, 0, 0, 0, 0, 0, 0, 0, 0]) 3 (n := 0) sc_law.nd (fe_callTy call_tuple_of cd_tuple rfl T.z_tuple boot_tuple' (fa_cons (FE.l1 (fe_lc (own := [("k", 11)]) (ws := [11]) (fl1 := [0, 0, 0, 0, 0, 0, 0, 0, 0, 0, 0, 0, 0]) (n := 0) rfl sc_law.nd (fi_range1 rfl T.z_range (fa_cons (FE.brw (fe_var 2)) fa_nil)) (blkOk_by (N := N_law) (sc := (defScope s_law)) (by decide +kernel)) (fun _ _ _ _ _ _ => (fg_name (fl' := [0, 0, 0, 0, 0, 0, 0, 0, 0, 0, 0, 0, 0]) 11 sc_law.nd)) (fun _ _ _ _ _ _ => fts_nil) (fun _ _ _ _ _ _ => (fe_op op_addA od_add (FE.l0 fe_int) (FE.l0 (fe_call (ok__law_draw T) (hr.mono (by omega)) rfl T.g__law_draw T.t__law_draw.kp T.b__law_draw pass0 (fa_cons (FE.brw (fe_var 1)) (fa_cons (FE.brw fe_int) fa_nil)))))) (by decide) (by decide))) fa_nil))) (fss_cons (fl1 := [0, 0, 0, 0, 0, 0, 0, 0, 0, 0, 0, 0, 0]) (fs_set (fl' := [0, 0, 0, 0, 0, 0, 0, 0, 0, 0, 0, 0, 0]) 4 (n := 0) sc_law.nd (fe_callTy call_tuple_of cd_tuple rfl T.z_tuple boot_tuple' (fa_cons (FE.l1 (fe_lc (own := [("k", 11)]) (ws := [11]) (fl1 := [0, 0, 0, 0, 0, 0, 0, 0, 0, 0, 0, 0, 0]) (n := 0) rfl sc_law.nd (fi_range1 rfl T.z_range (fa_cons (FE.brw (fe_var 2)) fa_nil)) (blkOk_by (N := N_law) (sc := (defScope s_law)) (by decide +kernel)) (fun _ _ _ _ _ _ => (fg_name (fl' := [0, 0, 0, 0, 0, 0, 0, 0, 0, 0, 0, 0, 0]) 11 sc_law.nd)) (fun _ _ _ _ _ _ => fts_nil) (fun _ _ _ _ _ _ => (fe_call (ok__law_number T) (hr.mono (by omega)) rfl T.g__law_number T.t__law_number.kp T.b__law_number pass0 (fa_cons (FE.brw (fe_var 1)) fa_nil))) (by decide) (by decide))) fa_nil))) (fss_cons (fl1 := [0, 0, 0, 0, 0, 0, 0, 0, 0, 0, 0, 0, 0]) (fs_set (fl' := [0, 0, 0, 0, 0, 0, 0, 0, 0, 0, 0, 0, 0]) 5 (n := 0) sc_law.nd (fe_tup (fa_cons (fe_tup (fa_cons fe_int (fa_cons fe_int fa_nil))) fa_nil))) (fss_cons (fl1 := [0, 0, 0, 0, 0, 0, 0, 0, 0, 0, 0, 0, 0]) (fs_for (ws := [6, 7]) (fl1 := [0, 0, 0, 0, 0, 0, 0, 0, 0, 0, 0, 0, 0]) PassesOwn.never rfl (fi_zip rfl T.z_zip (fa_cons (fe_var 3) (fa_cons (fe_var 4) fa_nil))) (fun _ => (fg_tup rfl (fgs_cons (fg_name (fl' := [0, 0, 0, 0, 0, 0, 0, 0, 0, 0, 0, 0, 0]) 6 sc_law.nd) (fgs_cons (fg_name (fl' := [0, 0, 0, 0, 0, 0, 0, 0, 0, 0, 0, 0, 0]) 7 sc_law.nd) fgs_nil (.inr (by decide))) (.inr (by decide))))) (fun _ => (fss_one (fs_set (fl' := [0, 0, 0, 0, 0, 0, 0, 0, 0, 0, 0, 0, 0]) 5 (n := 0) sc_law.nd (fe_call (ok_product T) (hr.mono (by omega)) rfl T.g_product T.t_product.kp T.b_product pass0 (fa_cons (FE.brw (fe_var 5)) (fa_cons (FE.brw (fe_op op_addA od_add (FE.l0 (fe_op op_addA od_add (FE.l0 (fe_tup (fa_cons (fe_tup (fa_cons fe_int (fa_cons fe_int fa_nil))) fa_nil))) (FE.l0 (fe_op op_mulA od_mul (FE.l0 (fe_tup (fa_cons fe_non fa_nil))) (FE.brw (fe_op op_sub od_sub (FE.brw (fe_var 6)) (FE.brw fe_int))))))) (FE.l0 (fe_tup (fa_cons (fe_var 7) fa_nil))))) fa_nil))))))) (fss_cons (fl1 := [0, 0, 0, 0, 0, 0, 0, 0, 0, 0, 0, 0, 0]) (fs_set (fl' := [0, 0, 0, 0, 0, 0, 0, 0, 0, 0, 0, 0, 0]) 8 (n := 0) sc_law.nd (fe_call (ok__law_draw T) (hr.mono (by omega)) rfl T.g__law_draw T.t__law_draw.kp T.b__law_draw pass0 (fa_cons (FE.brw (fe_var 1)) (fa_cons (FE.brw fe_int) fa_nil)))) (fss_cons (fl1 := [0, 0, 0, 0, 0, 0, 0, 0, 0, 0, 0, 0, 0]) (fs_set (fl' := [0, 0, 0, 0, 0, 0, 0, 0, 0, 0, 0, 0, 0]) 9 (n := 0) sc_law.nd (fe_call (ok_lots_of T) (hr.mono (by omega)) rfl T.g_lots_of T.t_lots_of.kp T.b_lots_of pass0 (fa_cons (FE.brw (fe_var 3)) (fa_cons (FE.brw (fe_var 4)) (fa_cons (FE.brw (fe_var 8)) fa_nil))))) (fss_cons (fl1 := [0, 0, 0, 0, 0, 0, 0, 0, 0, 0, 0, 0, 0]) (fs_if (ft_not (ft_val (fe_call (ok__law_same T) (hr.mono (by omega)) rfl T.g__law_same T.t__law_same.kp T.b__law_same pass0 (fa_cons (FE.brw (fe_var 9)) (fa_cons (FE.brw (fe_callTy call_tuple_of cd_tuple rfl T.z_tuple boot_tuple' (fa_cons (FE.l1 (fe_lc (own := [("place", 12)]) (ws := [12]) (fl1 := [0, 0, 0, 0, 0, 0, 0, 0, 0, 0, 0, 0, 0]) (n := 0) rfl sc_law.nd (fi_range1 rfl T.z_range (fa_cons (FE.brw (fe_op op_addA od_add (FE.l0 (fe_var 8)) (FE.l0 fe_int))) fa_nil)) (blkOk_by (N := N_law) (sc := (defScope s_law)) (by decide +kernel)) (fun _ _ _ _ _ _ => (fg_name (fl' := [0, 0, 0, 0, 0, 0, 0, 0, 0, 0, 0, 0, 0]) 12 sc_law.nd)) (fun _ _ _ _ _ _ => fts_nil) (fun _ _ _ _ _ _ => (fe_call (ok__law_top T) (hr.mono (by omega)) rfl T.g__law_top T.t__law_top.kp T.b__law_top pass0 (fa_cons (FE.brw (fe_slT (FE.l0 (fe_var 5)) fo_none (fo_some (fe_op op_addA od_add (FE.l0 (fe_var 12)) (FE.l0 fe_int))))) fa_nil))) (by decide) (by decide))) fa_nil))) fa_nil))))) (fss_one (fs_ret fe_bl)) fss_nil) (fss_cons (fl1 := [0, 0, 0, 0, 0, 0, 0, 0, 0, 0, 0, 0, 0]) (fs_if (ft_not (ft_val (fe_call (ok__law_same T) (hr.mono (by omega)) rfl T.g__law_same T.t__law_same.kp T.b__law_same pass0 (fa_cons (FE.brw (fe_call (ok_value T) (hr.mono (by omega)) rfl T.g_value T.t_value.kp T.b_value pass0 (fa_cons (FE.brw (fe_var 5)) (fa_cons (FE.brw (fe_tup (fa_cons fe_int (fa_cons fe_int fa_nil)))) fa_nil)))) (fa_cons (FE.brw (fe_call (ok__law_sum T) (hr.mono (by omega)) rfl T.g__law_sum T.t__law_sum.kp T.b__law_sum pass0 (fa_cons (FE.brw (fe_lc (own := [("worth", 7)]) (ws := [7]) (fl1 := [0, 0, 0, 0, 0, 0, 0, 0, 0, 0, 0, 0, 0]) (n := 0) rfl sc_law.nd (fi_any (fe_var 4)) (blkOk_by (N := N_law) (sc := (defScope s_law)) (by decide +kernel)) (fun _ _ _ _ _ _ => (fg_name (fl' := [0, 0, 0, 0, 0, 0, 0, 0, 0, 0, 0, 0, 0]) 7 sc_law.nd)) (fun _ _ _ _ _ _ => (fts_one (ft_cmp op_gt od_gt (FE.brw (fe_ix (FE.l0 (fe_var 7)) (FE.brw fe_int))) (FE.brw fe_int)))) (fun _ _ _ _ _ _ => (fe_var 7)) (by decide) (by decide))) fa_nil))) fa_nil))))) (fss_one (fs_ret fe_bl)) fss_nil) (fss_cons (fl1 := [0, 0, 0, 0, 0, 0, 0, 0, 0, 0, 0, 0, 0]) (fs_set (fl' := [0, 0, 0, 0, 0, 0, 0, 0, 0, 0, 0, 0, 0]) 10 (n := 0) sc_law.nd (fe_call (ok_chosen T) (hr.mono (by omega)) rfl T.g_chosen T.t_chosen.kp T.b_chosen pass0 (fa_cons (FE.brw (fe_var 3)) (fa_cons (FE.brw (fe_var 4)) (fa_cons (FE.brw (fe_var 8)) fa_nil))))) (fss_cons (fl1 := [0, 0, 0, 0, 0, 0, 0, 0, 0, 0, 0, 0, 0]) (fs_par2 (fl' := [0, 0, 0, 0, 0, 0, 0, 0, 0, 0, 0, 0, 0]) 6 7 (n1 := 0) (n2 := 0) rfl sc_law.nd (fe_callB (cr_sum rfl) cd_sum rfl T.z_sum boot_sum' (fa_cons (FE.brw (fe_lc (own := [("k", 11)]) (ws := [11]) (fl1 := [0, 0, 0, 0, 0, 0, 0, 0, 0, 0, 0, 0, 0]) (n := 0) rfl sc_law.nd (fi_any (fe_var 10)) (blkOk_by (N := N_law) (sc := (defScope s_law)) (by decide +kernel)) (fun _ _ _ _ _ _ => (fg_name (fl' := [0, 0, 0, 0, 0, 0, 0, 0, 0, 0, 0, 0, 0]) 11 sc_law.nd)) (fun _ _ _ _ _ _ => fts_nil) (fun _ _ _ _ _ _ => (fe_ix (FE.l0 (fe_var 3)) (FE.brw (fe_var 11)))) (by decide) (by decide))) fa_nil)) (fe_call (ok__law_sum T) (hr.mono (by omega)) rfl T.g__law_sum T.t__law_sum.kp T.b__law_sum pass0 (fa_cons (FE.brw (fe_lc (own := [("k", 11)]) (ws := [11]) (fl1 := [0, 0, 0, 0, 0, 0, 0, 0, 0, 0, 0, 0, 0]) (n := 0) rfl sc_law.nd (fi_any (fe_var 10)) (blkOk_by (N := N_law) (sc := (defScope s_law)) (by decide +kernel)) (fun _ _ _ _ _ _ => (fg_name (fl' := [0, 0, 0, 0, 0, 0, 0, 0, 0, 0, 0, 0, 0]) 11 sc_law.nd)) (fun _ _ _ _ _ _ => fts_nil) (fun _ _ _ _ _ _ => (fe_ix (FE.l0 (fe_var 4)) (FE.brw (fe_var 11)))) (by decide) (by decide))) fa_nil)) (by rfl)) (fss_one (fs_ret (fe_and (fe_cmp op_le od_le (FE.brw (fe_var 6)) (FE.brw (fe_var 8))) (fe_and (fe_cmp (op_eqD hr.units) od_eq (FE.brw (fe_var 7)) (FE.brw (fe_ix (FE.l0 (fe_var 9)) (FE.brw (fe_var 8))))) (fe_and (fe_not (fe_call (ok__law_below T) (hr.mono (by omega)) rfl T.g__law_below T.t__law_below.kp T.b__law_below pass0 (fa_cons (FE.brw (fe_ix (FE.l0 (fe_var 5)) (FE.brw (fe_var 6)))) (fa_cons (FE.brw (fe_var 7)) fa_nil)))) (fe_one (fe_cmp (op_eqD hr.units) od_eq (FE.brw (fe_ix (FE.l0 (fe_var 5)) (FE.brw (fe_var 6)))) (FE.brw (fe_ix (FE.l0 (fe_var 9)) (FE.brw (fe_var 8))))))))))))))))))))))⟩) rfl plain
end
end FL.K80a
set_option maxRecDepth 100000
set_option maxHeartbeats 400000
noncomputable section
namespace FL.K80a
open PySem PySem.Spec PyProof.Rows L2 FL FL.L
/-! the product's coefficients, a thing more -/
def wstep (w : Nat) (v : Rat) (W : Nat → Option Rat) (n : Nat) : Option Rat := vmax (W n) (if w ≤ n then vplus (W (n - w)) (some v) else none)
def W0 : Nat → Option Rat := fun n => if n = 0 then some 0 else none
def wof (ths : List (Nat × Rat)) : Nat → Option Rat := ths.foldl (fun W th => wstep th.1 th.2 W) W0
def deg (ths : List (Nat × Rat)) : Nat := (ths.map (·.1)).sum
theorem wof_snoc (l : List (Nat × Rat)) (th : Nat × Rat) : wof (l ++ [th]) = wstep th.1 th.2 (wof l) := by
  unfold wof; rw [List.foldl_append]; rfl
theorem deg_snoc (l : List (Nat × Rat)) (th : Nat × Rat) : deg (l ++ [th]) = deg l + th.1 := by
  unfold deg; simp
theorem snoc_ind {α : Type} {P : List α → Prop} (h0 : P []) (h1 : ∀ l a, P l → P (l ++ [a])) (l : List α) : P l := by
  have : ∀ n (l : List α), l.length = n → P l := by
    intro n
    induction n with
    | zero => intro l hl; rw [List.eq_nil_of_length_eq_zero hl]; exact h0
    | succ n ih =>
      intro l hl
      have hne : l ≠ [] := by intro z; rw [z] at hl; cases hl
      rw [← List.dropLast_concat_getLast hne]
      exact h1 _ _ (ih _ (by rw [List.length_dropLast, hl]; rfl))
  exact this _ l rfl
theorem vmax_none {a b : Option Rat} (h : vmax a b = none) : a = none ∧ b = none := by
  have h1 := vle_max1 a b
  have h2 := vle_max2 a b
  rw [h] at h1 h2
  refine ⟨?_, ?_⟩
  · cases a with
    | none => rfl
    | some a => exact h1.elim
  · cases b with
    | none => rfl
    | some b => exact h2.elim
theorem vmax_nn : vmax none none = none := rfl
theorem wof_deg (ths : List (Nat × Rat)) : (∀ n, deg ths < n → wof ths n = none) ∧ wof ths (deg ths) ≠ none := by
  refine snoc_ind (P := fun ths => (∀ n, deg ths < n → wof ths n = none) ∧ wof ths (deg ths) ≠ none) ?_ (fun l th ih => ?_) ths
  · refine ⟨fun n hn => ?_, ?_⟩
    · show W0 n = none
      unfold W0; rw [if_neg (by have : deg [] = 0 := rfl; omega)]
    · show W0 0 ≠ none
      unfold W0; rw [if_pos rfl]; exact fun z => by cases z
  · obtain ⟨h1, h2⟩ := ih
    rw [wof_snoc, deg_snoc]
    refine ⟨fun n hn => ?_, fun z => ?_⟩
    · unfold wstep
      rw [h1 n (by omega)]
      split
      · rw [h1 (n - th.1) (by omega)]; rfl
      · rfl
    · have := (vmax_none z).2
      rw [if_pos (by omega), Nat.add_sub_cancel] at this
      cases e : wof l (deg l) with
      | none => exact h2 e
      | some q => rw [e] at this; cases this
theorem wstep_ge1 (w : Nat) (v : Rat) (W : Nat → Option Rat) (n : Nat) : vle (W n) (wstep w v W n) := vle_max1 _ _
theorem wstep_ge2 (w : Nat) (v : Rat) (W : Nat → Option Rat) (n : Nat) : vle (vplus (W n) (some v)) (wstep w v W (n + w)) := by
  have := vle_max2 (W (n + w)) (if w ≤ n + w then vplus (W (n + w - w)) (some v) else none)
  rw [if_pos (by omega), Nat.add_sub_cancel] at this
  unfold wstep
  rw [if_pos (by omega), Nat.add_sub_cancel]
  exact this
theorem kstep_ge1 (w : Nat) (v : Rat) (f : Nat → Rat) (p : Nat) : f p ≤ kstep w v f p := by
  unfold kstep; split
  · rename_i c; exact Rat.le_of_lt c.2
  · exact Rat.le_refl
theorem kstep_ge2 {w : Nat} {v : Rat} {f : Nat → Rat} {p : Nat} (h : w ≤ p) : f (p - w) + v ≤ kstep w v f p := by
  unfold kstep; split
  · exact Rat.le_refl
  · rename_i c
    exact Rat.not_lt.mp fun z => c ⟨h, z⟩
/-- rooms and weights -/
theorem lots_wof (ths : List (Nat × Rat)) : ∀ p, SupOf (fun x => ∃ n, n ≤ p ∧ x = wof ths n) (some (lots ths p)) := by
  refine snoc_ind (P := fun ths => ∀ p, SupOf (fun x => ∃ n, n ≤ p ∧ x = wof ths n) (some (lots ths p))) ?_ (fun l th ih => ?_) ths
  · intro p
    refine ⟨fun x ⟨n, hn, e⟩ => ?_, .inr ⟨0, Nat.zero_le _, rfl⟩⟩
    rw [e]
    show vle (W0 n) (some 0)
    unfold W0
    split
    · exact Rat.le_refl
    · trivial
  · intro p
    rw [wof_snoc, lots_snoc]
    have up : ∀ n, n ≤ p → vle (wstep th.1 th.2 (wof l) n) (some (kstep th.1 th.2 (lots l) p)) := fun n hn => by
      rcases vmax_or (wof l n) (if th.1 ≤ n then vplus (wof l (n - th.1)) (some th.2) else none) with e | e
      · unfold wstep
        rw [e]
        exact vle_trans ((ih p).1 _ ⟨n, hn, rfl⟩) (kstep_ge1 th.1 th.2 (lots l) p)
      · unfold wstep
        rw [e]
        split
        · rename_i hw
          refine vle_trans (vplus_mono ((ih (p - th.1)).1 _ ⟨n - th.1, by omega, rfl⟩) (vle_refl (some th.2))) ?_
          exact kstep_ge2 (by omega)
        · trivial
    refine ⟨fun x ⟨n, hn, e⟩ => by rw [e]; exact up n hn, .inr ?_⟩
    by_cases c : th.1 ≤ p ∧ lots l p < lots l (p - th.1) + th.2
    · have ek : kstep th.1 th.2 (lots l) p = lots l (p - th.1) + th.2 := by unfold kstep; rw [if_pos c]
      obtain ⟨n, hn, e⟩ := (ih (p - th.1)).2.resolve_left fun z => by cases z
      refine ⟨n + th.1, by omega, vle_antisymm ?_ (up _ (by omega))⟩
      have := wstep_ge2 th.1 th.2 (wof l) n
      rw [← e] at this
      rw [ek]; exact this
    · have ek : kstep th.1 th.2 (lots l) p = lots l p := by unfold kstep; rw [if_neg c]
      obtain ⟨n, hn, e⟩ := (ih p).2.resolve_left fun z => by cases z
      refine ⟨n, hn, vle_antisymm ?_ (up _ hn)⟩
      rw [ek, e]
      exact wstep_ge1 _ _ _ _
/-- the sum of the worths above 0 -/
def pos (l : List Rat) : List Rat := l.filter fun q => decide (0 < q.num)
def rsum (l : List Rat) : Rat := l.foldl (· + ·) 0
theorem foldl_add (l : List Rat) : ∀ x : Rat, l.foldl (· + ·) x = x + rsum l := by
  induction l with
  | nil => intro x; unfold rsum; simp [Rat.add_zero]
  | cons a l ih =>
    intro x
    unfold rsum
    rw [List.foldl_cons, List.foldl_cons, ih (x + a), ih (0 + a), Rat.zero_add, Rat.add_assoc]
theorem rsum_append (l m : List Rat) : rsum (l ++ m) = rsum l + rsum m := by
  unfold rsum; rw [List.foldl_append, foldl_add]; rfl
theorem rsum_cons (a : Rat) (l : List Rat) : rsum (a :: l) = a + rsum l := by
  unfold rsum; rw [List.foldl_cons, foldl_add, Rat.zero_add]; rfl
theorem rsum_one (a : Rat) : rsum [a] = a := by rw [rsum_cons]; exact Rat.add_zero a
theorem rsum_reverse (l : List Rat) : rsum l.reverse = rsum l := by
  induction l with
  | nil => rfl
  | cons a l ih => rw [List.reverse_cons, rsum_append, rsum_one, ih, rsum_cons, Rat.add_comm]
theorem num_pos (q : Rat) : 0 < q.num ↔ 0 < q := by
  rw [Rat.lt_iff]
  simp
theorem wof_all (ths : List (Nat × Rat)) : SupOf (fun x => ∃ n, x = wof ths n) (some (rsum (pos (ths.map (·.2))))) := by
  refine snoc_ind (P := fun ths => SupOf (fun x => ∃ n, x = wof ths n) (some (rsum (pos (ths.map (·.2)))))) ?_ (fun l th ih => ?_) ths
  · refine ⟨fun x ⟨n, e⟩ => ?_, .inr ⟨0, rfl⟩⟩
    rw [e]
    show vle (W0 n) (some 0)
    unfold W0
    split
    · exact Rat.le_refl
    · trivial
  · have es : rsum (pos ((l ++ [th]).map (·.2))) = rsum (pos (l.map (·.2))) + (if 0 < th.2 then th.2 else 0) := by
      unfold pos
      rw [List.map_append, List.filter_append, rsum_append]
      congr 1
      by_cases h : 0 < th.2
      · rw [if_pos h]
        have : List.filter (fun q : Rat => decide (0 < q.num)) (List.map (·.2) [th]) = [th.2] := by
          simp [(num_pos th.2).mpr h]
        rw [this, rsum_one]
      · rw [if_neg h]
        have : List.filter (fun q : Rat => decide (0 < q.num)) (List.map (·.2) [th]) = [] := by
          have h' : ¬ 0 < th.2.num := fun z => h ((num_pos _).mp z)
          simp at h'
          simp [h']
        rw [this]; rfl
    generalize hS : rsum (pos (l.map (·.2))) = S at *
    rw [es, wof_snoc]
    have up : ∀ n, vle (wstep th.1 th.2 (wof l) n) (some (S + if 0 < th.2 then th.2 else 0)) := fun n => by
      rcases vmax_or (wof l n) (if th.1 ≤ n then vplus (wof l (n - th.1)) (some th.2) else none) with e | e
      · unfold wstep
        rw [e]
        refine vle_trans (ih.1 _ ⟨n, rfl⟩) ?_
        show S ≤ _
        split <;> grind
      · unfold wstep
        rw [e]
        split
        · refine vle_trans (vplus_mono (ih.1 _ ⟨n - th.1, rfl⟩) (vle_refl (some th.2))) ?_
          show S + th.2 ≤ _
          split <;> grind
        · trivial
    refine ⟨fun x ⟨n, e⟩ => by rw [e]; exact up n, .inr ?_⟩
    obtain ⟨n, e⟩ := ih.2.resolve_left fun z => by cases z
    by_cases h : 0 < th.2
    · refine ⟨n + th.1, vle_antisymm ?_ (up _)⟩
      have := wstep_ge2 th.1 th.2 (wof l) n
      rw [← e] at this
      rw [if_pos h]; exact this
    · refine ⟨n, vle_antisymm ?_ (up _)⟩
      rw [if_neg h, Rat.add_zero, e]
      exact wstep_ge1 _ _ _ _
/-- what chosen takes -/
def wAt (ths : List (Nat × Rat)) (k : Nat) : Nat := ((ths[k]?).map (·.1)).getD 0
def vAt (ths : List (Nat × Rat)) (k : Nat) : Rat := ((ths[k]?).map (·.2)).getD 0
theorem chs_ok (ths : List (Nat × Rat)) : ∀ i, i ≤ ths.length → ∀ left, (∀ k ∈ chs ths i left, k < i) ∧ ((chs ths i left).map (wAt ths)).sum ≤ left ∧ rsum ((chs ths i left).map (vAt ths)) = lots (ths.take i) left ∧
    vle (some (rsum ((chs ths i left).map (vAt ths)))) (wof (ths.take i) ((chs ths i left).map (wAt ths)).sum)
  | 0, _, left => ⟨fun k hk => (nomatch hk), Nat.zero_le _, rfl, Rat.le_refl⟩
  | i + 1, hi, left => by
    have hth : ths[i]? = some ths[i] := List.getElem?_eq_getElem (by omega)
    have et := take_succ hth
    have ew : wAt ths i = ths[i].1 := by unfold wAt; rw [hth]; rfl
    have ev' : vAt ths i = ths[i].2 := by unfold vAt; rw [hth]; rfl
    by_cases c : lots (ths.take (i + 1)) left ≠ lots (ths.take i) left
    · have ex : chs ths (i + 1) left = i :: chs ths i (left - wAt ths i) := by
        show (if _ then _ else _) = _
        rw [if_pos c]; rfl
      have hk : ths[i].1 ≤ left ∧ lots (ths.take (i + 1)) left = lots (ths.take i) (left - ths[i].1) + ths[i].2 := by
        have e : lots (ths.take (i + 1)) = kstep ths[i].1 ths[i].2 (lots (ths.take i)) := by rw [et, lots_snoc]
        rw [e] at c ⊢
        exact kstep_ne c
      obtain ⟨h1, h2, h3, h4⟩ := chs_ok ths i (by omega) (left - wAt ths i)
      rw [ex, List.map_cons, List.map_cons, List.sum_cons, rsum_cons, ew, ev'] at *
      refine ⟨fun k hk => ?_, by omega, ?_, ?_⟩
      · rcases List.mem_cons.mp hk with e | e
        · omega
        · have := h1 k e; omega
      · rw [h3, hk.2, Rat.add_comm]
      · rw [et, wof_snoc, Rat.add_comm, Nat.add_comm]
        exact vle_trans (vplus_mono h4 (vle_refl (some ths[i].2))) (wstep_ge2 _ _ _ _)
    · have ex : chs ths (i + 1) left = chs ths i left := by
        show (if _ then _ else _) = _
        rw [if_neg c]
      obtain ⟨h1, h2, h3, h4⟩ := chs_ok ths i (by omega) left
      rw [ex]
      refine ⟨fun k hk => by have := h1 k hk; omega, h2, ?_, ?_⟩
      · rw [h3]; exact (Classical.not_not.mp c).symm
      · rw [et, wof_snoc]
        exact vle_trans h4 (wstep_ge1 _ _ _ _)

/-- the coefficients as a list -/
def wL (ths : List (Nat × Rat)) : List (Option Rat) := (List.range (deg ths + 1)).map (wof ths)
theorem wL_at (ths : List (Nat × Rat)) (k : Nat) (a : Option Rat) : (wL ths)[k]? = some a ↔ k ≤ deg ths ∧ a = wof ths k := by
  unfold wL
  rw [List.getElem?_map]
  by_cases h : k < deg ths + 1
  · rw [List.getElem?_range h]
    constructor
    · intro e; cases e; exact ⟨by omega, rfl⟩
    · rintro ⟨_, rfl⟩; rfl
  · rw [List.getElem?_eq_none (by simpa using h)]
    constructor
    · intro e; cases e
    · rintro ⟨z, _⟩; omega
def fac (th : Nat × Rat) : List (Option Rat) := [some 0] ++ List.replicate (th.1 - 1) none ++ [some th.2]
theorem fac_at (th : Nat × Rat) (hw : 0 < th.1) (j : Nat) (b : Option Rat) : (fac th)[j]? = some b ↔ (j = 0 ∧ b = some 0) ∨ (0 < j ∧ j < th.1 ∧ b = none) ∨ (j = th.1 ∧ b = some th.2) := by
  unfold fac
  rw [List.append_assoc]
  cases j with
  | zero =>
    simp only [List.cons_append, List.nil_append, List.getElem?_cons_zero]
    constructor
    · intro e; cases e; exact .inl ⟨trivial, rfl⟩
    · rintro (⟨_, rfl⟩ | ⟨h, _⟩ | ⟨h, _⟩)
      · rfl
      · omega
      · omega
  | succ j =>
    simp only [List.cons_append, List.nil_append, List.getElem?_cons_succ]
    by_cases h : j < th.1 - 1
    · rw [List.getElem?_append_left (by simpa using h), List.getElem?_replicate, if_pos h]
      constructor
      · intro e; cases e; exact .inr (.inl ⟨by omega, by omega, rfl⟩)
      · rintro (⟨h1, _⟩ | ⟨_, _, rfl⟩ | ⟨h1, _⟩)
        · omega
        · rfl
        · omega
    · rw [List.getElem?_append_right (by simpa using h), List.length_replicate]
      by_cases h2 : j = th.1 - 1
      · rw [h2, Nat.sub_self]
        constructor
        · intro e; cases e; exact .inr (.inr ⟨by omega, rfl⟩)
        · rintro (⟨h1, _⟩ | ⟨_, h1, _⟩ | ⟨_, rfl⟩)
          · omega
          · omega
          · rfl
      · rw [List.getElem?_eq_none (by simp only [List.length_cons, List.length_nil]; omega)]
        constructor
        · intro e; cases e
        · rintro (⟨h1, _⟩ | ⟨_, h1, _⟩ | ⟨h1, _⟩) <;> omega
theorem fac_len (th : Nat × Rat) (hw : 0 < th.1) : (fac th).length = th.1 + 1 := by
  unfold fac; simp; omega
theorem prod_wL (l : List (Nat × Rat)) (th : Nat × Rat) (hw : 0 < th.1) {cs : List (Option Rat)} (h : IsProd (wL l) (fac th) cs) : cs = wL (l ++ [th]) := by
  obtain ⟨h1, h2⟩ := h
  have hl1 : (wL l).length = deg l + 1 := by unfold wL; simp
  have hlen : cs.length = deg (l ++ [th]) + 1 := by rw [h1, hl1, fac_len th hw, deg_snoc]; omega
  refine List.ext_getElem? fun n => ?_
  by_cases hn : n < cs.length
  · have hc := List.getElem?_eq_getElem hn
    rw [hc]
    symm
    rw [wL_at]
    refine ⟨by omega, (h2 n _ hc).uniq ?_⟩
    rw [wof_snoc]
    have hd := wof_deg l
    refine ⟨fun x ⟨k, j, a, b, _, e1, e2, e3, e4⟩ => ?_, ?_⟩
    · rw [e4]
      obtain ⟨hk, rfl⟩ := (wL_at l k a).mp e2
      rcases (fac_at th hw j b).mp e3 with ⟨rfl, rfl⟩ | ⟨_, _, rfl⟩ | ⟨rfl, rfl⟩
      · have : k = n := by omega
        subst this
        have e : vplus (wof l k) (some 0) = wof l k := by
          cases wof l k with
          | none => rfl
          | some q => show some (q + 0) = _; rw [Rat.add_zero]
        rw [e]; exact wstep_ge1 _ _ _ _
      · cases wof l k <;> trivial
      · have := wstep_ge2 th.1 th.2 (wof l) k
        rw [e1] at this; exact this
    · rcases vmax_or (wof l n) (if th.1 ≤ n then vplus (wof l (n - th.1)) (some th.2) else none) with e | e
      · unfold wstep
        rw [e]
        cases ew : wof l n with
        | none => exact .inl rfl
        | some q =>
          refine .inr ⟨n, 0, some q, some 0, trivial, rfl, (wL_at l n _).mpr ⟨?_, ew.symm⟩, (fac_at th hw 0 _).mpr (.inl ⟨rfl, rfl⟩), ?_⟩
          · by_cases z : n ≤ deg l
            · exact z
            · rw [hd.1 n (by omega)] at ew; cases ew
          · show _ = some (q + 0); rw [Rat.add_zero]
      · unfold wstep
        rw [e]
        by_cases hwn : th.1 ≤ n
        · rw [if_pos hwn]
          cases ew : wof l (n - th.1) with
          | none => exact .inl rfl
          | some q =>
            refine .inr ⟨n - th.1, th.1, some q, some th.2, trivial, by omega, (wL_at l _ _).mpr ⟨?_, ew.symm⟩, (fac_at th hw _ _).mpr (.inr (.inr ⟨rfl, rfl⟩)), rfl⟩
            by_cases z : n - th.1 ≤ deg l
            · exact z
            · rw [hd.1 _ (by omega)] at ew; cases ew
        · rw [if_neg hwn]; exact .inl rfl
  · rw [List.getElem?_eq_none (by omega), List.getElem?_eq_none (by unfold wL; simp; omega)]
theorem wof_vb {d N : Nat} (hd : d ≠ 0) (ths : List (Nat × Rat)) (hv : ∀ th ∈ ths, Bd d N th.2) : ∀ n, VB d (ths.length * N) (wof ths n) := by
  revert hv
  refine snoc_ind (P := fun ths => (∀ th ∈ ths, Bd d N th.2) → ∀ n, VB d (ths.length * N) (wof ths n)) ?_ (fun l th ih => ?_) ths
  · intro _ n
    show VB d _ (W0 n)
    unfold W0
    split
    · exact VB.some Bd.zero
    · exact VB.none
  · intro hv n
    rw [wof_snoc, List.length_append, List.length_cons, List.length_nil, Nat.zero_add, Nat.succ_mul]
    have ih := ih fun u hu => hv u (List.mem_append_left _ hu)
    refine VB.max ((ih n).mono (by omega)) ?_
    split
    · exact (ih _).plus hd (VB.some (hv th (List.mem_append_right _ List.mem_cons_self)))
    · exact VB.none
theorem wL_last (ths : List (Nat × Rat)) : ∃ q, (wL ths).getLast? = some (some q) := by
  have h := (wof_deg ths).2
  unfold wL
  rw [List.getLast?_map, List.getLast?_range]
  simp only [Nat.add_eq_zero_iff, Nat.succ_ne_self, and_false, if_false, Nat.add_sub_cancel, Option.map_some]
  cases e : wof ths (deg ths) with
  | none => exact absurd e h
  | some q => exact ⟨q, rfl⟩
end FL.K80a
set_option maxRecDepth 100000
set_option maxHeartbeats 400000
noncomputable section
namespace FL.K80a
open PySem PySem.Spec PyProof.Rows L2 FL FL.L
theorem draw_w (t : Tape) (ht : TOk t) : ∃ (w : Nat) (t' : Tape), F_draw [.tape, .int 5] t = some (.int w, t') ∧ w < 5 ∧ TOk t' := by
  obtain ⟨c, t1, h1, h2, h3, h4⟩ := draw_ev (m := 5) ht (by decide) (by decide)
  exact ⟨c.toNat, t1, by rw [h1]; congr 3; omega, by omega, h4⟩
theorem zip_fst {α β : Type} : ∀ (l : List α) (m : List β), l.length = m.length → (l.zip m).map Prod.fst = l
  | [], [], _ => rfl
  | a :: l, b :: m, h => by rw [List.zip_cons_cons, List.map_cons, zip_fst l m (by simpa using h)]
  | [], _ :: _, h => by simp at h
  | _ :: _, [], h => by simp at h
theorem zip_snd {α β : Type} : ∀ (l : List α) (m : List β), l.length = m.length → (l.zip m).map Prod.snd = m
  | [], [], _ => rfl
  | a :: l, b :: m, h => by rw [List.zip_cons_cons, List.map_cons, zip_snd l m (by simpa using h)]
  | [], _ :: _, h => by simp at h
  | _ :: _, [], h => by simp at h
theorem deg_le : ∀ (ths : List (Nat × Rat)), (∀ th ∈ ths, th.1 ≤ 5) → deg ths ≤ 5 * ths.length
  | [], _ => Nat.le_refl _
  | th :: l, h => by
    have := deg_le l fun u hu => h u (List.mem_cons_of_mem _ hu)
    have h2 := h th List.mem_cons_self
    unfold deg at *
    rw [List.map_cons, List.sum_cons, List.length_cons]
    omega
theorem oAdd_tup {l m : List D} (h : (l ++ m).length ≤ 100000) : oAdd (.tup l) (.tup m) = some (.tup (l ++ m)) := by
  simp only [oAdd, small_of h, if_true]
theorem fac_D (th : Nat × Rat) (hw : 0 < th.1) (hw5 : th.1 ≤ 5) : (do
    let a ← oMul (.tup [.non]) (.int ((th.1 : Int) - 1))
    let b ← oAdd (.tup [.tup [.int 0, .int 1]]) a
    oAdd b (.tup [rD th.2])) = some (.tup ((fac th).map vD)) := by
  have h1 : rep1 ((th.1 : Int) - 1) [D.non] = true := rep1_of (by omega) (by omega) (by show 1 ≤ 1000; decide)
  have h2 : repL ((th.1 : Int) - 1) [D.non] = List.replicate (th.1 - 1) D.non := by
    unfold repL
    rw [show ((th.1 : Int) - 1).toNat = th.1 - 1 by omega]
    generalize th.1 - 1 = n
    induction n with
    | zero => rfl
    | succ n ih => rw [List.replicate_succ, List.flatten_cons, ih]; rfl
  have h3 : (fac th).map vD = D.tup [.int 0, .int 1] :: (List.replicate (th.1 - 1) D.non ++ [rD th.2]) := by
    unfold fac
    rw [List.map_append, List.map_append, List.map_replicate]
    rfl
  have e1 : oMul (.tup [.non]) (.int ((th.1 : Int) - 1)) = some (.tup (List.replicate (th.1 - 1) D.non)) := by
    rw [← h2]; simp only [oMul, h1, if_true]
  have e2 : oAdd (.tup [.tup [.int 0, .int 1]]) (.tup (List.replicate (th.1 - 1) D.non)) = some (.tup ([.tup [.int 0, .int 1]] ++ List.replicate (th.1 - 1) D.non)) := oAdd_tup (by simp; omega)
  have e3 : oAdd (.tup ([.tup [.int 0, .int 1]] ++ List.replicate (th.1 - 1) D.non)) (.tup [rD th.2]) = some (.tup (([.tup [.int 0, .int 1]] ++ List.replicate (th.1 - 1) D.non) ++ [rD th.2])) := oAdd_tup (by simp; omega)
  rw [h3]
  simp only [Option.bind_eq_bind, e1, e2, e3, Option.bind_some]
  rfl
/-- the loop that makes the product -/
theorem whole_loop (ths : List (Nat × Rat)) (hn : ths.length ≤ 5) (hw : ∀ th ∈ ths, 0 < th.1 ∧ th.1 ≤ 5) (hv : ∀ th ∈ ths, Bd 6 6 th.2) (t : Tape) (x0 x1 x2 x3 x4 x6 x7 x8 x9 x10 x11 x12 : Option D) :
    ∃ y6 y7, forL (gmTup 2 (gmCons (gmName 6) (gmCons (gmName 7) gmNil))) (mSet 5 (mCall 2 0 F_polys_product (mCons (mVar 5) (mCons (mOp oAdd (mOp oAdd (mTup (mCons (mTup (mCons (mC (.int 0)) (mCons (mC (.int 1)) mNil))) mNil)) (mOp oMul (mTup (mCons (mC .non) mNil)) (mOp oSub (mVar 6) (mC (.int 1))))) (mTup (mCons (mVar 7) mNil))) mNil)))) (ths.map fun th => D.tup [iD th.1, rD th.2])
      [x0, x1, x2, x3, x4, some (.tup [.tup [.int 0, .int 1]]), x6, x7, x8, x9, x10, x11, x12] t = some (.nx [x0, x1, x2, x3, x4, some (.tup ((wL ths).map vD)), y6, y7, x8, x9, x10, x11, x12] t) := by
  obtain ⟨ρ', t', h1, ht, y6, y7, hρ⟩ := forL_at (g := gmTup 2 (gmCons (gmName 6) (gmCons (gmName 7) gmNil))) (sm := (mSet 5 (mCall 2 0 F_polys_product (mCons (mVar 5) (mCons (mOp oAdd (mOp oAdd (mTup (mCons (mTup (mCons (mC (.int 0)) (mCons (mC (.int 1)) mNil))) mNil)) (mOp oMul (mTup (mCons (mC .non) mNil)) (mOp oSub (mVar 6) (mC (.int 1))))) (mTup (mCons (mVar 7) mNil))) mNil))))) (ths.map fun th => D.tup [iD th.1, rD th.2])
    (fun i ρ t' => t' = t ∧ ∃ y6 y7, ρ = [x0, x1, x2, x3, x4, some (.tup ((wL (ths.take i)).map vD)), y6, y7, x8, x9, x10, x11, x12])
    (fun i e ρ t' he ⟨ht, y6, y7, hρ⟩ => by
      subst ht hρ
      rw [List.getElem?_map] at he
      cases hth : ths[i]? with
      | none => rw [hth] at he; cases he
      | some th =>
        rw [hth] at he
        cases he
        have hm := List.mem_of_getElem? hth
        have hi : i < ths.length := (List.getElem?_eq_some_iff.mp hth).1
        have hw1 := hw th hm
        have hvt : ∀ u ∈ ths.take i, Bd 6 6 u.2 := fun u hu => hv u (List.mem_of_mem_take hu)
        have hdg : deg (ths.take i) ≤ 5 * (ths.take i).length := deg_le _ fun u hu => (hw u (List.mem_of_mem_take hu)).2
        have htl : (ths.take i).length = i := by rw [List.length_take]; omega
        have hvb : ∀ n, VB 6 (i * 6) (wof (ths.take i) n) := fun n => by
          have := wof_vb (d := 6) (N := 6) (by decide) (ths.take i) hvt n
          rw [htl] at this; exact this
        have hl1 : (wL (ths.take i)).length = deg (ths.take i) + 1 := by unfold wL; simp
        have hfl := fac_len th hw1.1
        have hfb : ∀ b ∈ fac th, VB 6 6 b := fun b hb => by
          unfold fac at hb
          simp only [List.mem_append, List.mem_cons, List.mem_nil_iff, or_false, List.mem_replicate] at hb
          rcases hb with (rfl | ⟨_, rfl⟩) | rfl
          · exact VB.some Bd.zero
          · exact VB.none
          · exact VB.some (hv th hm)
        have hwm : ∀ a ∈ wL (ths.take i), VB 6 (i * 6) a := fun a ha => by
          unfold wL at ha
          obtain ⟨n, _, rfl⟩ := List.mem_map.mp ha
          exact hvb n
        obtain ⟨cs, k1, k2⟩ := product_ev (wL (ths.take i)) (fac th) t' (by intro z; rw [z] at hl1; cases hl1) (by intro z; rw [z] at hfl; cases hfl) (by omega) (by omega) (by omega) (wL_last _)
          ⟨th.2, by unfold fac; rw [List.getLast?_concat]⟩ (fun a ha => (hwm a ha).v0 (by decide) (by decide) (by omega)) (fun b hb => (hfb b hb).v0 (by decide) (by decide) (by decide)) (fun a ha b hb => ((hwm a ha).plus (by decide) (hfb b hb)).v0 (by decide) (by decide) (by omega))
        rw [prod_wL _ th hw1.1 k2, ← take_succ hth] at k1
        have hf := fac_D th hw1.1 hw1.2
        have hp : plnL 0 (.tup ((wL (ths.take (i + 1))).map vD)) = true := pln_tup (n := 8) fun v _ => pln_vD' 6 v
        have key : mCall 2 0 F_polys_product (mCons (mVar 5) (mCons (mOp oAdd (mOp oAdd (mTup (mCons (mTup (mCons (mC (.int 0)) (mCons (mC (.int 1)) mNil))) mNil)) (mOp oMul (mTup (mCons (mC .non) mNil)) (mOp oSub (mVar 6) (mC (.int 1))))) (mTup (mCons (mVar 7) mNil))) mNil)) [x0, x1, x2, x3, x4, some (.tup ((wL (ths.take i)).map vD)), some (iD th.1), some (rD th.2), x8, x9, x10, x11, x12] t' = some (.tup ((wL (ths.take (i + 1))).map vD), t') := by
          refine mCall_of (ds := [.tup ((wL (ths.take i)).map vD), .tup ((fac th).map vD)]) (t1 := t') ?_ ?_ ?_ ?_
          rotate_left
          · simp only [List.length_cons, List.length_nil]
          · exact k1
          · exact hp
          · simp only [Option.bind_eq_bind] at hf
            obtain ⟨a, ha, hf⟩ := bind_some hf
            obtain ⟨b, hb, hf⟩ := bind_some hf
            simp! [iD, ha, hb, hf]
        refine ⟨_, _, rfl, ?_, [x0, x1, x2, x3, x4, some (.tup ((wL (ths.take (i + 1))).map vD)), some (iD th.1), some (rD th.2), x8, x9, x10, x11, x12], t', .inl rfl, rfl, _, _, rfl⟩
        exact mSet_of key)
    (ρ := [x0, x1, x2, x3, x4, some (.tup ((wL (ths.take 0)).map vD)), x6, x7, x8, x9, x10, x11, x12]) (t := t) ⟨rfl, _, _, rfl⟩
  subst ht hρ
  rw [List.length_map, List.take_length] at h1
  exact ⟨y6, y7, h1⟩
end FL.K80a
set_option maxRecDepth 100000
set_option maxHeartbeats 400000
noncomputable section
namespace FL.K80a
open PySem PySem.Spec PyProof.Rows L2 FL FL.L
theorem ins_map' {α : Type} (l : List α) (f : α → Nat) : ins (l.map fun a => iD (f a)) = some (l.map fun a => (f a : Int)) := by
  have := ins_map (l.map fun a => (f a : Int))
  rw [List.map_map] at this
  exact this
theorem sum_cast : ∀ l : List Nat, (l.map fun (a : Nat) => (a : Int)).sum = ((l.sum : Nat) : Int)
  | [] => rfl
  | a :: l => by rw [List.map_cons, List.sum_cons, List.sum_cons, sum_cast l]; omega
theorem pvals_zero (l : List (Option Rat)) : pvals l (some 0) = l := by
  unfold pvals
  refine List.ext_getElem? fun i => ?_
  rw [List.getElem?_map, List.getElem?_zipIdx]
  cases l[i]? with
  | none => rfl
  | some a =>
    show some (vplus a (vtimes (some 0) _)) = some a
    have : vtimes (some 0) ((0 + i : Nat) : Int) = some 0 := by
      unfold vtimes
      split
      · rfl
      · show some (0 * _) = _; rw [Rat.zero_mul]
    rw [this]
    cases a with
    | none => rfl
    | some q => show some (some (q + 0)) = _; rw [Rat.add_zero]
theorem lots_top (ths : List (Nat × Rat)) (p : Nat) : vmaxL none ((wL ths).take (p + 1)) = some (lots ths p) := by
  refine (vmaxL_none _).uniq ?_
  have h := lots_wof ths p
  refine ⟨fun x hx => ?_, .inr ?_⟩
  · obtain ⟨n, hn⟩ := List.mem_iff_getElem?.mp hx
    rw [List.getElem?_take] at hn
    split at hn
    · rename_i c
      obtain ⟨_, rfl⟩ := (wL_at ths n x).mp hn
      exact h.1 _ ⟨n, by omega, rfl⟩
    · cases hn
  · obtain ⟨n, hn, e⟩ := h.2.resolve_left fun z => by cases z
    refine List.mem_iff_getElem?.mpr ⟨n, ?_⟩
    rw [List.getElem?_take, if_pos (by omega)]
    refine (wL_at ths n _).mpr ⟨?_, e⟩
    by_cases z : n ≤ deg ths
    · exact z
    · rw [(wof_deg ths).1 n (by omega)] at e; cases e
theorem all_top (ths : List (Nat × Rat)) : vmaxL none (wL ths) = some (rsum (pos (ths.map (·.2)))) := by
  refine (vmaxL_none _).uniq ?_
  have h := wof_all ths
  refine ⟨fun x hx => ?_, .inr ?_⟩
  · obtain ⟨n, hn⟩ := List.mem_iff_getElem?.mp hx
    obtain ⟨_, rfl⟩ := (wL_at ths n x).mp hn
    exact h.1 _ ⟨n, rfl⟩
  · obtain ⟨n, e⟩ := h.2.resolve_left fun z => by cases z
    refine List.mem_iff_getElem?.mpr ⟨n, (wL_at ths n _).mpr ⟨?_, e⟩⟩
    by_cases z : n ≤ deg ths
    · exact z
    · rw [(wof_deg ths).1 n (by omega)] at e; cases e
theorem chs_len (ths : List (Nat × Rat)) : ∀ i left, (chs ths i left).length ≤ i
  | 0, _ => Nat.le_refl _
  | i + 1, left => by
    show (if _ then _ else _ : List Nat).length ≤ _
    split
    · rw [List.length_cons]; exact Nat.succ_le_succ (chs_len ths i _)
    · exact Nat.le_succ_of_le (chs_len ths i _)
theorem plain (ns : List Int) (hns : ns.length ≤ 63) : ∃ t', m_law (lawE 13 1) (tapeOf ns) = some (.rt (.bl true) t') := by
  obtain ⟨c, t1, h1, hc0, hc1, ht1⟩ := draw_ev (m := 6) (tapeOf_ok ns) (by decide) (by decide)
  obtain ⟨n, rfl⟩ : ∃ n : Nat, c = n := ⟨c.toNat, by omega⟩
  have hr := range1 (n := n) (by omega)
  -- weights
  obtain ⟨ws, t2, k1, ht2, hwl, hws⟩ := lcL_draw (g := gmName 11) (c := mYes) (e := mOp oAdd (mC (.int 1)) (mCall 2 0 F_draw (mCons (mVar 1) (mCons (mC (.int 5)) mNil)))) (ρ := [none, some .tape, some (.int n), none, none, none, none, none, none, none, none, none, none])
    (List.range n) (fun i : Nat => D.int i) iD (fun _ w => 0 < w ∧ w ≤ 5) (fun i _ t ht => by
      obtain ⟨w, t', h, hw, ht'⟩ := draw_w t ht
      refine ⟨_, w + 1, t', rfl, rfl, ?_, ht', by omega, by omega⟩
      have e : (1 : Int) + (w : Int) = ((w + 1 : Nat) : Int) := by omega
      simp! [h, e, iD]) t1 ht1
  -- worths
  obtain ⟨vs, t3, k2, ht3, hvl, hvs⟩ := lcL_draw (g := gmName 11) (c := mYes) (e := mCall 1 0 F_law_number (mCons (mVar 1) mNil)) (ρ := [none, some .tape, some (.int n), some (.tup (ws.map iD)), none, none, none, none, none, none, none, none, none])
    (List.range n) (fun i : Nat => D.int i) rD (fun _ q => Bd 6 6 q) (fun i _ t ht => by
      obtain ⟨q, t', h, hq, ht'⟩ := law_number_ev t ht
      refine ⟨_, q, t', rfl, rfl, ?_, ht', hq⟩
      simp! [h, pln_rD]) t2 ht2
  rw [List.length_range] at hwl hvl
  have hlen : ws.length = vs.length := by omega
  obtain ⟨ths, hths⟩ : ∃ ths, ths = ws.zip vs := ⟨_, rfl⟩
  have hfst : ths.map Prod.fst = ws := by rw [hths]; exact zip_fst ws vs hlen
  have hsnd : ths.map Prod.snd = vs := by rw [hths]; exact zip_snd ws vs hlen
  have htl : ths.length = n := by rw [← List.length_map (f := Prod.fst), hfst, hwl]
  have eW : ws.map iD = ths.map fun th => iD th.1 := by rw [← hfst, List.map_map]; rfl
  have eV : vs.map rD = ths.map fun th => rD th.2 := by rw [← hsnd, List.map_map]; rfl
  have hw : ∀ th ∈ ths, 0 < th.1 ∧ th.1 ≤ 5 := fun th h => by
    have : th.1 ∈ ws := by rw [← hfst]; exact List.mem_map_of_mem h
    obtain ⟨i, hi⟩ := List.mem_iff_getElem?.mp this
    have hil : i < n := by have := (List.getElem?_eq_some_iff.mp hi).1; omega
    exact hws i i th.1 (by rw [List.getElem?_range hil]) hi
  have hv : ∀ th ∈ ths, Bd 6 6 th.2 := fun th h => by
    have : th.2 ∈ vs := by rw [← hsnd]; exact List.mem_map_of_mem h
    obtain ⟨i, hi⟩ := List.mem_iff_getElem?.mp this
    have hil : i < n := by have := (List.getElem?_eq_some_iff.mp hi).1; omega
    exact hvs i i th.2 (by rw [List.getElem?_range hil]) hi
  obtain ⟨y6, y7, hwhole⟩ := whole_loop ths (by omega) hw hv t3 none (some .tape) (some (.int n)) (some (.tup (ths.map fun th => iD th.1))) (some (.tup (ths.map fun th => rD th.2))) none none none none none none none
  -- room
  obtain ⟨c, t4, h4, hr0, hr1, ht4⟩ := draw_ev (m := 30) ht3 (by decide) (by decide)
  obtain ⟨room, rfl⟩ : ∃ m : Nat, c = m := ⟨c.toNat, by omega⟩
  have hlots := lots_of_ev (d := 6) (N := 6) (by decide) (by decide) (by decide) ths room t4 (by omega) (by omega) (fun th h => (hw th h).1) (fun th h => by have := (hw th h).2; omega) hv
  have hchosen := chosen_ev (d := 6) (N := 6) (by decide) (by decide) (by decide) ths room t4 (by omega) (by omega) (fun th h => (hw th h).1) (fun th h => by have := (hw th h).2; omega) hv
  obtain ⟨ck, cw, cv, cle⟩ := chs_ok ths ths.length (Nat.le_refl _) room
  rw [List.take_length] at cv cle
  -- rooms are the greatest ones so far
  have htop : ∀ x y z u, lcL (gmName 12) mYes (mCall 1 0 F_law_top (mCons (mSl oSlT (mVar 5) mNoO (mO (mOp oAdd (mVar 12) (mC (.int 1))))) mNil)) [none, some .tape, some (.int n), some (.tup (ths.map fun th => iD th.1)), some (.tup (ths.map fun th => rD th.2)), some (.tup ((wL ths).map vD)), x, y, some (.int room), some (.tup ((List.range (room + 1)).map fun p => rD (lots ths p))), z, u, none] ((List.range (room + 1)).map fun (i : Nat) => D.int i) t4
      = some ((List.range (room + 1)).map fun p => rD (lots ths p), t4) := fun x y z u => by
    refine lcL_map _ _ _ fun p hp => ⟨_, rfl, rfl, ?_⟩
    have s1 : cutL ((wL ths).map vD) none (some ((p : Int) + 1)) = ((wL ths).take (p + 1)).map vD := by
      have := cut_take ((wL ths).map vD) (p + 1)
      rw [Int.natCast_add] at this
      rw [List.map_take]; exact this
    have hv0 : ∀ v ∈ (wL ths).take (p + 1), V0 v := fun v hv' => by
      have hm := List.mem_of_mem_take hv'
      unfold wL at hm
      obtain ⟨k, _, rfl⟩ := List.mem_map.mp hm
      exact (wof_vb (d := 6) (N := 6) (by decide) ths hv k).v0 (by decide) (by decide) (by rw [htl]; omega)
    have ht := law_top_ev hv0 t4
    rw [lots_top] at ht
    simp only [vD] at ht
    simp! [oSlT, s1, ht, pln_rD]
  have hsame := law_same_ev (d := .tup ((List.range (room + 1)).map fun p => rD (lots ths p))) (okS_tup (n := 6) (by simp; omega) fun p _ => okS_rD 4 _) t4
  have hr2 : dRange1 [.int ((room : Int) + 1)] = some ((List.range (room + 1)).map fun (i : Nat) => D.int i) := range1 (n := room + 1) (by omega)
  -- the value at 0
  have hvb : ∀ k, VB 6 30 (wof ths k) := fun k => (wof_vb (d := 6) (N := 6) (by decide) ths hv k).mono (by rw [htl]; omega)
  have hval := value_ev (wL ths) (some 0) t4 (by
      have : (wL ths).length = deg ths + 1 := by unfold wL; simp
      have := deg_le ths fun th h => (hw th h).2
      omega) (fun _ => wL_last ths) (V0.some (Bd.r0 (d := 1) (N := 0) Bd.zero (by decide) (by decide) (by decide))) (fun k a hk => by
      obtain ⟨_, rfl⟩ := (wL_at ths k a).mp hk
      have e : vtimes (some 0) (k : Int) = some 0 := by
        unfold vtimes
        split
        · rfl
        · show some (0 * _) = _; rw [Rat.zero_mul]
      rw [e]
      exact ⟨(hvb k).v0 (by decide) (by decide) (by decide), V0.some (Bd.r0 (d := 1) (N := 0) Bd.zero (by decide) (by decide) (by decide)), ((hvb k).plus (by decide) (VB.some (Bd.zero (N := 0)))).v0 (by decide) (by decide) (by decide)⟩)
  rw [pvals_zero, all_top, hsnd] at hval
  have hpos : ∀ x z u q, lcL (gmName 7) (mTst (mOp oGt (mOp oIx (mVar 7) (mC (.int 0))) (mC (.int 0)))) (mVar 7) [none, some .tape, some (.int n), some (.tup (ths.map fun th => iD th.1)), some (.tup (vs.map rD)), some (.tup ((wL ths).map vD)), x, none, some (.int room), some (.tup ((List.range (room + 1)).map fun p => rD (lots ths p))), z, u, q] (vs.map rD) t4 = some ((pos vs).map rD, t4) := fun x z u q =>
    lcL_filter vs rD rD (fun q => decide (0 < q.num)) fun q _ => ⟨_, rfl, by simp! [rD], fun _ => by simp! [rD]⟩
  have hvB : ∀ q ∈ vs, Bd 6 6 q := fun q hq => by
    obtain ⟨i, hi⟩ := List.mem_iff_getElem?.mp hq
    have hil : i < n := by have := (List.getElem?_eq_some_iff.mp hi).1; omega
    exact hvs i i q (by rw [List.getElem?_range hil]) hi
  have hpl : (pos vs).length ≤ vs.length := List.length_filter_le _ _
  have hps := law_sum_ev (d := 6) (N := 6) (l := (pos vs).map some) (by decide) (by decide) (fun v hv' => by
    obtain ⟨q, hq, rfl⟩ := List.mem_map.mp hv'
    exact VB.some (hvB q (List.mem_filter.mp hq).1)) (by rw [List.length_map]; omega) t4
  rw [vsumL_some, List.map_map] at hps
  have ers : (pos vs).foldl (· + ·) 0 = rsum (pos vs) := rfl
  rw [ers] at hps
  have hps' : F_law_sum [.lst ((pos vs).map rD)] t4 = some (rD (rsum (pos vs)), t4) := hps
  have hsame2 := law_same_ev (d := rD (rsum (pos vs))) (okS_rD 5 _) t4
  refine ⟨t4, ?_⟩
  show m_law [none, some .tape, none, none, none, none, none, none, none, none, none, none, none] (tapeOf ns) = _
  unfold m_law
  refine (mSeq_nx (ρ' := [none, some .tape, some (.int n), none, none, none, none, none, none, none, none, none, none]) (t' := t1) ?_).trans ?_
  · simp! [h1]
  refine (mSeq_nx (ρ' := [none, some .tape, some (.int n), some (.tup (ws.map iD)), none, none, none, none, none, none, none, none, none]) (t' := t2) ?_).trans ?_
  · simp! [hr, mLc, k1]
    have : ws.length ≤ 100000 := by omega
    simp! [this]
  refine (mSeq_nx (ρ' := [none, some .tape, some (.int n), some (.tup (ws.map iD)), some (.tup (vs.map rD)), none, none, none, none, none, none, none, none]) (t' := t3) ?_).trans ?_
  · simp! [hr, mLc, k2]
    have : vs.length ≤ 100000 := by omega
    simp! [this]
  refine (mSeq_nx (ρ' := [none, some .tape, some (.int n), some (.tup (ws.map iD)), some (.tup (vs.map rD)), some (.tup [.tup [.int 0, .int 1]]), none, none, none, none, none, none, none]) (t' := t3) ?_).trans ?_
  · simp! []
  rw [eW, eV]
  refine (mSeq_nx ((mFor_of (t' := t3) (ds := ths.map fun th => D.tup [iD th.1, rD th.2]) ?_).trans hwhole)).trans ?_
  · simp! [dZipA, dZip_map]
  refine (mSeq_nx (ρ' := [none, some .tape, some (.int n), some (.tup (ths.map fun th => iD th.1)), some (.tup (ths.map fun th => rD th.2)), some (.tup ((wL ths).map vD)), y6, y7, some (.int room), none, none, none, none]) (t' := t4) ?_).trans ?_
  · simp! [h4]
  refine (mSeq_nx (ρ' := [none, some .tape, some (.int n), some (.tup (ths.map fun th => iD th.1)), some (.tup (ths.map fun th => rD th.2)), some (.tup ((wL ths).map vD)), y6, y7, some (.int room), some (.tup ((List.range (room + 1)).map fun p => rD (lots ths p))), none, none, none]) (t' := t4) ?_).trans ?_
  · have hp : ((List.range (room + 1)).map fun p => rD (lots ths p)).all (pln 8) = true := pln_tup (n := 8) fun p _ => rfl
    simp! [hlots, hp]
  have hroom : room + 1 ≤ 100000 := by omega
  refine (mSeqIf_f (t' := t4) ?_).trans ?_
  · simp! [hr2, mLc, htop, hroom, hsame]
  refine (mSeqIf_f (t' := t4) ?_).trans ?_
  · have hvl2 : (pos vs).length ≤ 100000 := by omega
    rw [← eV]
    have e0 : rD 0 = .tup [.int 0, .int 1] := rfl
    simp only [vD, e0] at hval
    simp! [hval, pln_rD, mLc, hpos, hvl2, hps', hsame2]
  -- the lot
  have hL : (chs ths ths.length room).length ≤ 5 := Nat.le_trans (chs_len _ _ _) (by omega)
  generalize hLd : chs ths ths.length room = L at *
  have hw1 : ∀ x y z, lcL (gmName 11) mYes (mOp oIx (mVar 3) (mVar 11)) [none, some .tape, some (.int n), some (.tup (ths.map fun th => iD th.1)), some (.tup (ths.map fun th => rD th.2)), some (.tup ((wL ths).map vD)), x, y, some (.int room), some (.tup ((List.range (room + 1)).map fun p => rD (lots ths p))), some (.tup (L.reverse.map iD)), none, z] (L.reverse.map iD) t4 = some (L.reverse.map fun k => iD (wAt ths k), t4) := fun x y z =>
    lcL_map _ _ _ fun k hk => ⟨_, rfl, rfl, by
      have hk' : k < ths.length := ck k (List.mem_reverse.mp hk)
      have e : oIx (.tup (ths.map fun th => iD th.1)) (.int k) = some (iD (wAt ths k)) := oIx_tup (by omega) (by
        rw [Int.toNat_natCast, List.getElem?_map, List.getElem?_eq_getElem hk']
        unfold wAt
        rw [List.getElem?_eq_getElem hk']; rfl)
      simp only [iD] at e
      simp! [iD, e]⟩
  have hw2 : ∀ x y z, lcL (gmName 11) mYes (mOp oIx (mVar 4) (mVar 11)) [none, some .tape, some (.int n), some (.tup (ths.map fun th => iD th.1)), some (.tup (ths.map fun th => rD th.2)), some (.tup ((wL ths).map vD)), x, y, some (.int room), some (.tup ((List.range (room + 1)).map fun p => rD (lots ths p))), some (.tup (L.reverse.map iD)), none, z] (L.reverse.map iD) t4 = some (L.reverse.map fun k => rD (vAt ths k), t4) := fun x y z =>
    lcL_map _ _ _ fun k hk => ⟨_, rfl, rfl, by
      have hk' : k < ths.length := ck k (List.mem_reverse.mp hk)
      have e : oIx (.tup (ths.map fun th => rD th.2)) (.int k) = some (rD (vAt ths k)) := oIx_tup (by omega) (by
        rw [Int.toNat_natCast, List.getElem?_map, List.getElem?_eq_getElem hk']
        unfold vAt
        rw [List.getElem?_eq_getElem hk']; rfl)
      simp! [iD, e]⟩
  have hvat : ∀ k, k < ths.length → Bd 6 6 (vAt ths k) := fun k hk => by
    have : vAt ths k = ths[k].2 := by unfold vAt; rw [List.getElem?_eq_getElem hk]; rfl
    rw [this]; exact hv _ (List.getElem_mem hk)
  have hls := law_sum_ev (d := 6) (N := 6) (l := (L.reverse.map (vAt ths)).map some) (by decide) (by decide) (fun v hv' => by
    obtain ⟨q, hq, rfl⟩ := List.mem_map.mp hv'
    obtain ⟨k, hk, rfl⟩ := List.mem_map.mp hq
    exact VB.some (hvat k (ck k (List.mem_reverse.mp hk)))) (by simp; omega) t4
  rw [vsumL_some] at hls
  have ers2 : (L.reverse.map (vAt ths)).foldl (· + ·) 0 = lots ths room := by
    rw [← cv, List.map_reverse]; exact rsum_reverse _
  rw [ers2, List.map_map, List.map_map] at hls
  have hls' : F_law_sum [.lst (L.reverse.map fun k => rD (vAt ths k))] t4 = some (rD (lots ths room), t4) := hls
  have hL2 : L.length ≤ 100000 := by omega
  have hws2 : (L.reverse.map fun k => ((wAt ths k : Nat) : Int)).sum = (((L.map (wAt ths)).sum : Nat) : Int) := by
    rw [← sum_cast, List.map_map, List.map_reverse, List.sum_reverse]; rfl
  generalize hwsum : (L.map (wAt ths)).sum = wsum at *
  have hwle : decide ((wsum : Int) ≤ (room : Int)) = true := decide_eq_true (by omega)
  rw [cv] at cle
  have hwof : wof ths wsum = some (lots ths room) := vle_antisymm ((lots_wof ths room).1 _ ⟨wsum, cw, rfl⟩) cle
  have hwd : wsum ≤ deg ths := by
    by_cases z : wsum ≤ deg ths
    · exact z
    · rw [(wof_deg ths).1 wsum (by omega)] at hwof; cases hwof
  have x1 : oIx (.tup ((wL ths).map vD)) (.int wsum) = some (rD (lots ths room)) := oIx_tup (by omega) (by
    rw [Int.toNat_natCast, List.getElem?_map, (wL_at ths wsum _).mpr ⟨hwd, rfl⟩, hwof]; rfl)
  have x2 : oIx (.tup ((List.range (room + 1)).map fun p => rD (lots ths p))) (.int room) = some (rD (lots ths room)) := oIx_tup (by omega) (by
    rw [Int.toNat_natCast, range_at _ (by omega)])
  have hX : V0 (some (lots ths room)) := V0.some ((lots_Bd (d := 6) (N := 6) (by decide) ths hv room).r0 (by decide) (by decide) (by omega))
  have hbel := law_below_ev hX hX t4
  have hlt : vless (some (lots ths room)) (some (lots ths room)) = false := vless_false.mpr (vle_refl _)
  rw [hlt] at hbel
  simp only [vD] at hbel
  refine (mSeq_nx (ρ' := [none, some .tape, some (.int n), some (.tup (ths.map fun th => iD th.1)), some (.tup (ths.map fun th => rD th.2)), some (.tup ((wL ths).map vD)), y6, y7, some (.int room), some (.tup ((List.range (room + 1)).map fun p => rD (lots ths p))), some (.tup (L.reverse.map iD)), none, none]) (t' := t4) ?_).trans ?_
  · have hp : (L.reverse.map iD).all (pln 8) = true := pln_tup (n := 8) fun p _ => rfl
    simp! [hchosen, hp]
  refine (mSeq_nx (ρ' := [none, some .tape, some (.int n), some (.tup (ths.map fun th => iD th.1)), some (.tup (ths.map fun th => rD th.2)), some (.tup ((wL ths).map vD)), some (.int wsum), some (rD (lots ths room)), some (.int room), some (.tup ((List.range (room + 1)).map fun p => rD (lots ths p))), some (.tup (L.reverse.map iD)), none, none]) (t' := t4) ?_).trans ?_
  · simp! [mLc, hw1, hw2, hL2, List.length_reverse, gSum, ins_map', hws2, hls', pln_rD]
  refine mRet_of ?_
  simp! [hwle, x1, x2, hbel, oEq_rD]
end FL.K80a
namespace FL.K80a
open PySem PySem.Spec PyProof.Rows L2 FL FL.L
theorem all_mk {l : PySem.W.OpenLaw} {w : World} {K : PySem.W.Frag} {h : Heap} {mg : Str → Option Value} {fa f_is_integer f_divisor f_is_ratio f_make f_add f_multiply f_less f_is_value f_is_less f_greater f_greatest f_plus f_times f_check_things f_lots_of f_chosen f_is_poly f_check_poly f_product f_value f__law_tape f__law_draw f__law_pick f__law_same f__law_frac f__law_plus f__law_below f__law_top f__law_sum f__law_number f_law : Addr} (X : K.In h) (G : h.Ns mainGlobals mg) (hfa : mg "law" = some (.ref fa))
    {od_is_integer an_is_integer od_divisor an_divisor od_is_ratio an_is_ratio od_make an_make od_add an_add od_multiply an_multiply od_less an_less od_is_value an_is_value od_is_less an_is_less od_greater an_greater od_greatest an_greatest od_plus an_plus od_times an_times od_check_things an_check_things od_lots_of an_lots_of od_chosen an_chosen od_is_poly an_is_poly od_check_poly an_check_poly od_product an_product od_value an_value od__law_tape an__law_tape od__law_draw an__law_draw od__law_pick an__law_pick od__law_same an__law_same od__law_frac an__law_frac od__law_plus an__law_plus od__law_below an__law_below od__law_top an__law_top od__law_sum an__law_sum od__law_number an__law_number od_law an_law : Option Addr} {sl_is_integer sl_divisor sl_is_ratio sl_make sl_add sl_multiply sl_less sl_is_value sl_is_less sl_greater sl_greatest sl_plus sl_times sl_check_things sl_lots_of sl_chosen sl_is_poly sl_check_poly sl_product sl_value sl__law_tape sl__law_draw sl__law_pick sl__law_same sl__law_frac sl__law_plus sl__law_below sl__law_top sl__law_sum sl__law_number sl_law : Array (Option Value)} {oc_is_integer kV_is_integer dc_is_integer pm_is_integer cd_is_integer ct_is_integer oc_divisor kV_divisor dc_divisor pm_divisor cd_divisor ct_divisor oc_is_ratio kV_is_ratio dc_is_ratio pm_is_ratio cd_is_ratio ct_is_ratio oc_make kV_make dc_make pm_make cd_make ct_make oc_add kV_add dc_add pm_add cd_add ct_add oc_multiply kV_multiply dc_multiply pm_multiply cd_multiply ct_multiply oc_less kV_less dc_less pm_less cd_less ct_less oc_is_value kV_is_value dc_is_value pm_is_value cd_is_value ct_is_value oc_is_less kV_is_less dc_is_less pm_is_less cd_is_less ct_is_less oc_greater kV_greater dc_greater pm_greater cd_greater ct_greater oc_greatest kV_greatest dc_greatest pm_greatest cd_greatest ct_greatest oc_plus kV_plus dc_plus pm_plus cd_plus ct_plus oc_times kV_times dc_times pm_times cd_times ct_times oc_check_things kV_check_things dc_check_things pm_check_things cd_check_things ct_check_things oc_lots_of kV_lots_of dc_lots_of pm_lots_of cd_lots_of ct_lots_of oc_chosen kV_chosen dc_chosen pm_chosen cd_chosen ct_chosen oc_is_poly kV_is_poly dc_is_poly pm_is_poly cd_is_poly ct_is_poly oc_check_poly kV_check_poly dc_check_poly pm_check_poly cd_check_poly ct_check_poly oc_product kV_product dc_product pm_product cd_product ct_product oc_value kV_value dc_value pm_value cd_value ct_value oc__law_tape kV__law_tape dc__law_tape pm__law_tape cd__law_tape ct__law_tape oc__law_draw kV__law_draw dc__law_draw pm__law_draw cd__law_draw ct__law_draw oc__law_pick kV__law_pick dc__law_pick pm__law_pick cd__law_pick ct__law_pick oc__law_same kV__law_same dc__law_same pm__law_same cd__law_same ct__law_same oc__law_frac kV__law_frac dc__law_frac pm__law_frac cd__law_frac ct__law_frac oc__law_plus kV__law_plus dc__law_plus pm__law_plus cd__law_plus ct__law_plus oc__law_below kV__law_below dc__law_below pm__law_below cd__law_below ct__law_below oc__law_top kV__law_top dc__law_top pm__law_top cd__law_top ct__law_top oc__law_sum kV__law_sum dc__law_sum pm__law_sum cd__law_sum ct__law_sum oc__law_number kV__law_number dc__law_number pm__law_number cd__law_number ct__law_number oc_law kV_law dc_law pm_law cd_law ct_law : Value}
    (a_is_integer : PySem.W.nsIn K mainGlobals "is_integer" = some (some (.ref f_is_integer))) (l_is_integer : K.lookup f_is_integer = some ⟨oc_is_integer, od_is_integer, .func (PySem.W.fnOf "is_integer" "is_integer" (defArgs s_is_integer) (defBody s_is_integer) (defScope s_is_integer) .none kV_is_integer dc_is_integer pm_is_integer an_is_integer cd_is_integer ct_is_integer), sl_is_integer⟩) (c_is_integer : PySem.W.codeIn K cd_is_integer "is_integer" = true) (k_is_integer : PySem.W.keepIn K (.ref f_is_integer) = true)
    (a_divisor : PySem.W.nsIn K mainGlobals "divisor" = some (some (.ref f_divisor))) (l_divisor : K.lookup f_divisor = some ⟨oc_divisor, od_divisor, .func (PySem.W.fnOf "divisor" "divisor" (defArgs s_divisor) (defBody s_divisor) (defScope s_divisor) .none kV_divisor dc_divisor pm_divisor an_divisor cd_divisor ct_divisor), sl_divisor⟩) (c_divisor : PySem.W.codeIn K cd_divisor "divisor" = true) (k_divisor : PySem.W.keepIn K (.ref f_divisor) = true)
    (a_is_ratio : PySem.W.nsIn K mainGlobals "is_ratio" = some (some (.ref f_is_ratio))) (l_is_ratio : K.lookup f_is_ratio = some ⟨oc_is_ratio, od_is_ratio, .func (PySem.W.fnOf "is_ratio" "is_ratio" (defArgs s_is_ratio) (defBody s_is_ratio) (defScope s_is_ratio) .none kV_is_ratio dc_is_ratio pm_is_ratio an_is_ratio cd_is_ratio ct_is_ratio), sl_is_ratio⟩) (c_is_ratio : PySem.W.codeIn K cd_is_ratio "is_ratio" = true) (k_is_ratio : PySem.W.keepIn K (.ref f_is_ratio) = true)
    (a_make : PySem.W.nsIn K mainGlobals "make" = some (some (.ref f_make))) (l_make : K.lookup f_make = some ⟨oc_make, od_make, .func (PySem.W.fnOf "make" "make" (defArgs s_make) (defBody s_make) (defScope s_make) .none kV_make dc_make pm_make an_make cd_make ct_make), sl_make⟩) (c_make : PySem.W.codeIn K cd_make "make" = true) (k_make : PySem.W.keepIn K (.ref f_make) = true)
    (a_add : PySem.W.nsIn K mainGlobals "add" = some (some (.ref f_add))) (l_add : K.lookup f_add = some ⟨oc_add, od_add, .func (PySem.W.fnOf "add" "add" (defArgs s_add) (defBody s_add) (defScope s_add) .none kV_add dc_add pm_add an_add cd_add ct_add), sl_add⟩) (c_add : PySem.W.codeIn K cd_add "add" = true) (k_add : PySem.W.keepIn K (.ref f_add) = true)
    (a_multiply : PySem.W.nsIn K mainGlobals "multiply" = some (some (.ref f_multiply))) (l_multiply : K.lookup f_multiply = some ⟨oc_multiply, od_multiply, .func (PySem.W.fnOf "multiply" "multiply" (defArgs s_multiply) (defBody s_multiply) (defScope s_multiply) .none kV_multiply dc_multiply pm_multiply an_multiply cd_multiply ct_multiply), sl_multiply⟩) (c_multiply : PySem.W.codeIn K cd_multiply "multiply" = true) (k_multiply : PySem.W.keepIn K (.ref f_multiply) = true)
    (a_less : PySem.W.nsIn K mainGlobals "less" = some (some (.ref f_less))) (l_less : K.lookup f_less = some ⟨oc_less, od_less, .func (PySem.W.fnOf "less" "less" (defArgs s_less) (defBody s_less) (defScope s_less) .none kV_less dc_less pm_less an_less cd_less ct_less), sl_less⟩) (c_less : PySem.W.codeIn K cd_less "less" = true) (k_less : PySem.W.keepIn K (.ref f_less) = true)
    (a_is_value : PySem.W.nsIn K mainGlobals "is_value" = some (some (.ref f_is_value))) (l_is_value : K.lookup f_is_value = some ⟨oc_is_value, od_is_value, .func (PySem.W.fnOf "is_value" "is_value" (defArgs s_is_value) (defBody s_is_value) (defScope s_is_value) .none kV_is_value dc_is_value pm_is_value an_is_value cd_is_value ct_is_value), sl_is_value⟩) (c_is_value : PySem.W.codeIn K cd_is_value "is_value" = true) (k_is_value : PySem.W.keepIn K (.ref f_is_value) = true)
    (a_is_less : PySem.W.nsIn K mainGlobals "is_less" = some (some (.ref f_is_less))) (l_is_less : K.lookup f_is_less = some ⟨oc_is_less, od_is_less, .func (PySem.W.fnOf "is_less" "is_less" (defArgs s_is_less) (defBody s_is_less) (defScope s_is_less) .none kV_is_less dc_is_less pm_is_less an_is_less cd_is_less ct_is_less), sl_is_less⟩) (c_is_less : PySem.W.codeIn K cd_is_less "is_less" = true) (k_is_less : PySem.W.keepIn K (.ref f_is_less) = true)
    (a_greater : PySem.W.nsIn K mainGlobals "greater" = some (some (.ref f_greater))) (l_greater : K.lookup f_greater = some ⟨oc_greater, od_greater, .func (PySem.W.fnOf "greater" "greater" (defArgs s_greater) (defBody s_greater) (defScope s_greater) .none kV_greater dc_greater pm_greater an_greater cd_greater ct_greater), sl_greater⟩) (c_greater : PySem.W.codeIn K cd_greater "greater" = true) (k_greater : PySem.W.keepIn K (.ref f_greater) = true)
    (a_greatest : PySem.W.nsIn K mainGlobals "greatest" = some (some (.ref f_greatest))) (l_greatest : K.lookup f_greatest = some ⟨oc_greatest, od_greatest, .func (PySem.W.fnOf "greatest" "greatest" (defArgs s_greatest) (defBody s_greatest) (defScope s_greatest) .none kV_greatest dc_greatest pm_greatest an_greatest cd_greatest ct_greatest), sl_greatest⟩) (c_greatest : PySem.W.codeIn K cd_greatest "greatest" = true) (k_greatest : PySem.W.keepIn K (.ref f_greatest) = true)
    (a_plus : PySem.W.nsIn K mainGlobals "plus" = some (some (.ref f_plus))) (l_plus : K.lookup f_plus = some ⟨oc_plus, od_plus, .func (PySem.W.fnOf "plus" "plus" (defArgs s_plus) (defBody s_plus) (defScope s_plus) .none kV_plus dc_plus pm_plus an_plus cd_plus ct_plus), sl_plus⟩) (c_plus : PySem.W.codeIn K cd_plus "plus" = true) (k_plus : PySem.W.keepIn K (.ref f_plus) = true)
    (a_times : PySem.W.nsIn K mainGlobals "times" = some (some (.ref f_times))) (l_times : K.lookup f_times = some ⟨oc_times, od_times, .func (PySem.W.fnOf "times" "times" (defArgs s_times) (defBody s_times) (defScope s_times) .none kV_times dc_times pm_times an_times cd_times ct_times), sl_times⟩) (c_times : PySem.W.codeIn K cd_times "times" = true) (k_times : PySem.W.keepIn K (.ref f_times) = true)
    (a_check_things : PySem.W.nsIn K mainGlobals "check_things" = some (some (.ref f_check_things))) (l_check_things : K.lookup f_check_things = some ⟨oc_check_things, od_check_things, .func (PySem.W.fnOf "check_things" "check_things" (defArgs s_check_things) (defBody s_check_things) (defScope s_check_things) .none kV_check_things dc_check_things pm_check_things an_check_things cd_check_things ct_check_things), sl_check_things⟩) (c_check_things : PySem.W.codeIn K cd_check_things "check_things" = true) (k_check_things : PySem.W.keepIn K (.ref f_check_things) = true)
    (a_lots_of : PySem.W.nsIn K mainGlobals "lots_of" = some (some (.ref f_lots_of))) (l_lots_of : K.lookup f_lots_of = some ⟨oc_lots_of, od_lots_of, .func (PySem.W.fnOf "lots_of" "lots_of" (defArgs s_lots_of) (defBody s_lots_of) (defScope s_lots_of) .none kV_lots_of dc_lots_of pm_lots_of an_lots_of cd_lots_of ct_lots_of), sl_lots_of⟩) (c_lots_of : PySem.W.codeIn K cd_lots_of "lots_of" = true) (k_lots_of : PySem.W.keepIn K (.ref f_lots_of) = true)
    (a_chosen : PySem.W.nsIn K mainGlobals "chosen" = some (some (.ref f_chosen))) (l_chosen : K.lookup f_chosen = some ⟨oc_chosen, od_chosen, .func (PySem.W.fnOf "chosen" "chosen" (defArgs s_chosen) (defBody s_chosen) (defScope s_chosen) .none kV_chosen dc_chosen pm_chosen an_chosen cd_chosen ct_chosen), sl_chosen⟩) (c_chosen : PySem.W.codeIn K cd_chosen "chosen" = true) (k_chosen : PySem.W.keepIn K (.ref f_chosen) = true)
    (a_is_poly : PySem.W.nsIn K mainGlobals "is_poly" = some (some (.ref f_is_poly))) (l_is_poly : K.lookup f_is_poly = some ⟨oc_is_poly, od_is_poly, .func (PySem.W.fnOf "is_poly" "is_poly" (defArgs s_is_poly) (defBody s_is_poly) (defScope s_is_poly) .none kV_is_poly dc_is_poly pm_is_poly an_is_poly cd_is_poly ct_is_poly), sl_is_poly⟩) (c_is_poly : PySem.W.codeIn K cd_is_poly "is_poly" = true) (k_is_poly : PySem.W.keepIn K (.ref f_is_poly) = true)
    (a_check_poly : PySem.W.nsIn K mainGlobals "check_poly" = some (some (.ref f_check_poly))) (l_check_poly : K.lookup f_check_poly = some ⟨oc_check_poly, od_check_poly, .func (PySem.W.fnOf "check_poly" "check_poly" (defArgs s_check_poly) (defBody s_check_poly) (defScope s_check_poly) .none kV_check_poly dc_check_poly pm_check_poly an_check_poly cd_check_poly ct_check_poly), sl_check_poly⟩) (c_check_poly : PySem.W.codeIn K cd_check_poly "check_poly" = true) (k_check_poly : PySem.W.keepIn K (.ref f_check_poly) = true)
    (a_product : PySem.W.nsIn K mainGlobals "product" = some (some (.ref f_product))) (l_product : K.lookup f_product = some ⟨oc_product, od_product, .func (PySem.W.fnOf "product" "product" (defArgs s_product) (defBody s_product) (defScope s_product) .none kV_product dc_product pm_product an_product cd_product ct_product), sl_product⟩) (c_product : PySem.W.codeIn K cd_product "product" = true) (k_product : PySem.W.keepIn K (.ref f_product) = true)
    (a_value : PySem.W.nsIn K mainGlobals "value" = some (some (.ref f_value))) (l_value : K.lookup f_value = some ⟨oc_value, od_value, .func (PySem.W.fnOf "value" "value" (defArgs s_value) (defBody s_value) (defScope s_value) .none kV_value dc_value pm_value an_value cd_value ct_value), sl_value⟩) (c_value : PySem.W.codeIn K cd_value "value" = true) (k_value : PySem.W.keepIn K (.ref f_value) = true)
    (a__law_tape : PySem.W.nsIn K mainGlobals "_law_tape" = some (some (.ref f__law_tape))) (l__law_tape : K.lookup f__law_tape = some ⟨oc__law_tape, od__law_tape, .func (PySem.W.fnOf "_law_tape" "_law_tape" (defArgs s__law_tape) (defBody s__law_tape) (defScope s__law_tape) .none kV__law_tape dc__law_tape pm__law_tape an__law_tape cd__law_tape ct__law_tape), sl__law_tape⟩) (c__law_tape : PySem.W.codeIn K cd__law_tape "_law_tape" = true) (k__law_tape : PySem.W.keepIn K (.ref f__law_tape) = true)
    (a__law_draw : PySem.W.nsIn K mainGlobals "_law_draw" = some (some (.ref f__law_draw))) (l__law_draw : K.lookup f__law_draw = some ⟨oc__law_draw, od__law_draw, .func (PySem.W.fnOf "_law_draw" "_law_draw" (defArgs s__law_draw) (defBody s__law_draw) (defScope s__law_draw) .none kV__law_draw dc__law_draw pm__law_draw an__law_draw cd__law_draw ct__law_draw), sl__law_draw⟩) (c__law_draw : PySem.W.codeIn K cd__law_draw "_law_draw" = true) (k__law_draw : PySem.W.keepIn K (.ref f__law_draw) = true)
    (a__law_pick : PySem.W.nsIn K mainGlobals "_law_pick" = some (some (.ref f__law_pick))) (l__law_pick : K.lookup f__law_pick = some ⟨oc__law_pick, od__law_pick, .func (PySem.W.fnOf "_law_pick" "_law_pick" (defArgs s__law_pick) (defBody s__law_pick) (defScope s__law_pick) .none kV__law_pick dc__law_pick pm__law_pick an__law_pick cd__law_pick ct__law_pick), sl__law_pick⟩) (c__law_pick : PySem.W.codeIn K cd__law_pick "_law_pick" = true) (k__law_pick : PySem.W.keepIn K (.ref f__law_pick) = true)
    (a__law_same : PySem.W.nsIn K mainGlobals "_law_same" = some (some (.ref f__law_same))) (l__law_same : K.lookup f__law_same = some ⟨oc__law_same, od__law_same, .func (PySem.W.fnOf "_law_same" "_law_same" (defArgs s__law_same) (defBody s__law_same) (defScope s__law_same) .none kV__law_same dc__law_same pm__law_same an__law_same cd__law_same ct__law_same), sl__law_same⟩) (c__law_same : PySem.W.codeIn K cd__law_same "_law_same" = true) (k__law_same : PySem.W.keepIn K (.ref f__law_same) = true)
    (a__law_frac : PySem.W.nsIn K mainGlobals "_law_frac" = some (some (.ref f__law_frac))) (l__law_frac : K.lookup f__law_frac = some ⟨oc__law_frac, od__law_frac, .func (PySem.W.fnOf "_law_frac" "_law_frac" (defArgs s__law_frac) (defBody s__law_frac) (defScope s__law_frac) .none kV__law_frac dc__law_frac pm__law_frac an__law_frac cd__law_frac ct__law_frac), sl__law_frac⟩) (c__law_frac : PySem.W.codeIn K cd__law_frac "_law_frac" = true) (k__law_frac : PySem.W.keepIn K (.ref f__law_frac) = true)
    (a__law_plus : PySem.W.nsIn K mainGlobals "_law_plus" = some (some (.ref f__law_plus))) (l__law_plus : K.lookup f__law_plus = some ⟨oc__law_plus, od__law_plus, .func (PySem.W.fnOf "_law_plus" "_law_plus" (defArgs s__law_plus) (defBody s__law_plus) (defScope s__law_plus) .none kV__law_plus dc__law_plus pm__law_plus an__law_plus cd__law_plus ct__law_plus), sl__law_plus⟩) (c__law_plus : PySem.W.codeIn K cd__law_plus "_law_plus" = true) (k__law_plus : PySem.W.keepIn K (.ref f__law_plus) = true)
    (a__law_below : PySem.W.nsIn K mainGlobals "_law_below" = some (some (.ref f__law_below))) (l__law_below : K.lookup f__law_below = some ⟨oc__law_below, od__law_below, .func (PySem.W.fnOf "_law_below" "_law_below" (defArgs s__law_below) (defBody s__law_below) (defScope s__law_below) .none kV__law_below dc__law_below pm__law_below an__law_below cd__law_below ct__law_below), sl__law_below⟩) (c__law_below : PySem.W.codeIn K cd__law_below "_law_below" = true) (k__law_below : PySem.W.keepIn K (.ref f__law_below) = true)
    (a__law_top : PySem.W.nsIn K mainGlobals "_law_top" = some (some (.ref f__law_top))) (l__law_top : K.lookup f__law_top = some ⟨oc__law_top, od__law_top, .func (PySem.W.fnOf "_law_top" "_law_top" (defArgs s__law_top) (defBody s__law_top) (defScope s__law_top) .none kV__law_top dc__law_top pm__law_top an__law_top cd__law_top ct__law_top), sl__law_top⟩) (c__law_top : PySem.W.codeIn K cd__law_top "_law_top" = true) (k__law_top : PySem.W.keepIn K (.ref f__law_top) = true)
    (a__law_sum : PySem.W.nsIn K mainGlobals "_law_sum" = some (some (.ref f__law_sum))) (l__law_sum : K.lookup f__law_sum = some ⟨oc__law_sum, od__law_sum, .func (PySem.W.fnOf "_law_sum" "_law_sum" (defArgs s__law_sum) (defBody s__law_sum) (defScope s__law_sum) .none kV__law_sum dc__law_sum pm__law_sum an__law_sum cd__law_sum ct__law_sum), sl__law_sum⟩) (c__law_sum : PySem.W.codeIn K cd__law_sum "_law_sum" = true) (k__law_sum : PySem.W.keepIn K (.ref f__law_sum) = true)
    (a__law_number : PySem.W.nsIn K mainGlobals "_law_number" = some (some (.ref f__law_number))) (l__law_number : K.lookup f__law_number = some ⟨oc__law_number, od__law_number, .func (PySem.W.fnOf "_law_number" "_law_number" (defArgs s__law_number) (defBody s__law_number) (defScope s__law_number) .none kV__law_number dc__law_number pm__law_number an__law_number cd__law_number ct__law_number), sl__law_number⟩) (c__law_number : PySem.W.codeIn K cd__law_number "_law_number" = true) (k__law_number : PySem.W.keepIn K (.ref f__law_number) = true)
    (a_law : PySem.W.nsIn K mainGlobals "law" = some (some (.ref f_law))) (l_law : K.lookup f_law = some ⟨oc_law, od_law, .func (PySem.W.fnOf "law" "law" (defArgs s_law) (defBody s_law) (defScope s_law) .none kV_law dc_law pm_law an_law cd_law ct_law), sl_law⟩) (c_law : PySem.W.codeIn K cd_law "law" = true) (k_law : PySem.W.keepIn K (.ref f_law) = true)
    (z_abs : PySem.W.nsIn K mainGlobals "abs" = some none)
    (z_all : PySem.W.nsIn K mainGlobals "all" = some none)
    (z_bool : PySem.W.nsIn K mainGlobals "bool" = some none)
    (z_enumerate : PySem.W.nsIn K mainGlobals "enumerate" = some none)
    (z_int : PySem.W.nsIn K mainGlobals "int" = some none)
    (z_isinstance : PySem.W.nsIn K mainGlobals "isinstance" = some none)
    (z_len : PySem.W.nsIn K mainGlobals "len" = some none)
    (z_range : PySem.W.nsIn K mainGlobals "range" = some none)
    (z_str : PySem.W.nsIn K mainGlobals "str" = some none)
    (z_sum : PySem.W.nsIn K mainGlobals "sum" = some none)
    (z_tuple : PySem.W.nsIn K mainGlobals "tuple" = some none)
    (z_zip : PySem.W.nsIn K mainGlobals "zip" = some none)
    {tk_MOST_DEGREE : Tok} (q_MOST_DEGREE : PySem.W.nsIn K mainGlobals "MOST_DEGREE" = some (some (.int 30 tk_MOST_DEGREE)))
    {tk_MOST_RULES : Tok} (q_MOST_RULES : PySem.W.nsIn K mainGlobals "MOST_RULES" = some (some (.int 24 tk_MOST_RULES)))
    {ad_ZERO : Addr} {od_ZERO : Option Addr} {n_ZERO : Nat} {sl_ZERO : Array (Option Value)} {tk_ZERO_0 tk_ZERO_1 : Tok} (q_ZERO : PySem.W.nsIn K mainGlobals "ZERO" = some (some (.ref ad_ZERO))) (r_ZERO : K.lookup ad_ZERO = some ⟨.type "tuple", od_ZERO, .seq #[.int 0 tk_ZERO_0, .int 1 tk_ZERO_1] n_ZERO, sl_ZERO⟩)
    : ∃ fd : FuncData, (∀ (s : Shared) (v : Value), BindsTo s fd ⟨[v], []⟩ [("script", v)]) ∧ ∀ base : Heap, K.In base → base.Ns mainGlobals mg → FnOk l.prog w K mg base CX0 8 fa fd ["script"] (spLaw K) := by
  have e := hfa.symm.trans (PySem.W.mg_of X G a_law)
  cases e
  have F_is_integer := fun_mk (st := s_is_integer) l_is_integer c_is_integer k_is_integer
  have F_divisor := fun_mk (st := s_divisor) l_divisor c_divisor k_divisor
  have F_is_ratio := fun_mk (st := s_is_ratio) l_is_ratio c_is_ratio k_is_ratio
  have F_make := fun_mk (st := s_make) l_make c_make k_make
  have F_add := fun_mk (st := s_add) l_add c_add k_add
  have F_multiply := fun_mk (st := s_multiply) l_multiply c_multiply k_multiply
  have F_less := fun_mk (st := s_less) l_less c_less k_less
  have F_is_value := fun_mk (st := s_is_value) l_is_value c_is_value k_is_value
  have F_is_less := fun_mk (st := s_is_less) l_is_less c_is_less k_is_less
  have F_greater := fun_mk (st := s_greater) l_greater c_greater k_greater
  have F_greatest := fun_mk (st := s_greatest) l_greatest c_greatest k_greatest
  have F_plus := fun_mk (st := s_plus) l_plus c_plus k_plus
  have F_times := fun_mk (st := s_times) l_times c_times k_times
  have F_check_things := fun_mk (st := s_check_things) l_check_things c_check_things k_check_things
  have F_lots_of := fun_mk (st := s_lots_of) l_lots_of c_lots_of k_lots_of
  have F_chosen := fun_mk (st := s_chosen) l_chosen c_chosen k_chosen
  have F_is_poly := fun_mk (st := s_is_poly) l_is_poly c_is_poly k_is_poly
  have F_check_poly := fun_mk (st := s_check_poly) l_check_poly c_check_poly k_check_poly
  have F_product := fun_mk (st := s_product) l_product c_product k_product
  have F_value := fun_mk (st := s_value) l_value c_value k_value
  have F__law_tape := fun_mk (st := s__law_tape) l__law_tape c__law_tape k__law_tape
  have F__law_draw := fun_mk (st := s__law_draw) l__law_draw c__law_draw k__law_draw
  have F__law_pick := fun_mk (st := s__law_pick) l__law_pick c__law_pick k__law_pick
  have F__law_same := fun_mk (st := s__law_same) l__law_same c__law_same k__law_same
  have F__law_frac := fun_mk (st := s__law_frac) l__law_frac c__law_frac k__law_frac
  have F__law_plus := fun_mk (st := s__law_plus) l__law_plus c__law_plus k__law_plus
  have F__law_below := fun_mk (st := s__law_below) l__law_below c__law_below k__law_below
  have F__law_top := fun_mk (st := s__law_top) l__law_top c__law_top k__law_top
  have F__law_sum := fun_mk (st := s__law_sum) l__law_sum c__law_sum k__law_sum
  have F__law_number := fun_mk (st := s__law_number) l__law_number c__law_number k__law_number
  have F_law := fun_mk (st := s_law) l_law c_law k_law
  let T : Tx K mg := {
    f_is_integer := f_is_integer, d_is_integer := _, t_is_integer := F_is_integer, g_is_integer := PySem.W.mg_of X G a_is_integer, b_is_integer := F_is_integer.binds fun _ _ _ _ _ _ us hl => match us, hl with | [_], _ => rfl
    f_divisor := f_divisor, d_divisor := _, t_divisor := F_divisor, g_divisor := PySem.W.mg_of X G a_divisor, b_divisor := F_divisor.binds fun _ _ _ _ _ _ us hl => match us, hl with | [_, _], _ => rfl
    f_is_ratio := f_is_ratio, d_is_ratio := _, t_is_ratio := F_is_ratio, g_is_ratio := PySem.W.mg_of X G a_is_ratio, b_is_ratio := F_is_ratio.binds fun _ _ _ _ _ _ us hl => match us, hl with | [_], _ => rfl
    f_make := f_make, d_make := _, t_make := F_make, g_make := PySem.W.mg_of X G a_make, b_make := F_make.binds fun _ _ _ _ _ _ us hl => match us, hl with | [_, _], _ => rfl
    f_add := f_add, d_add := _, t_add := F_add, g_add := PySem.W.mg_of X G a_add, b_add := F_add.binds fun _ _ _ _ _ _ us hl => match us, hl with | [_, _], _ => rfl
    f_multiply := f_multiply, d_multiply := _, t_multiply := F_multiply, g_multiply := PySem.W.mg_of X G a_multiply, b_multiply := F_multiply.binds fun _ _ _ _ _ _ us hl => match us, hl with | [_, _], _ => rfl
    f_less := f_less, d_less := _, t_less := F_less, g_less := PySem.W.mg_of X G a_less, b_less := F_less.binds fun _ _ _ _ _ _ us hl => match us, hl with | [_, _], _ => rfl
    f_is_value := f_is_value, d_is_value := _, t_is_value := F_is_value, g_is_value := PySem.W.mg_of X G a_is_value, b_is_value := F_is_value.binds fun _ _ _ _ _ _ us hl => match us, hl with | [_], _ => rfl
    f_is_less := f_is_less, d_is_less := _, t_is_less := F_is_less, g_is_less := PySem.W.mg_of X G a_is_less, b_is_less := F_is_less.binds fun _ _ _ _ _ _ us hl => match us, hl with | [_, _], _ => rfl
    f_greater := f_greater, d_greater := _, t_greater := F_greater, g_greater := PySem.W.mg_of X G a_greater, b_greater := F_greater.binds fun _ _ _ _ _ _ us hl => match us, hl with | [_, _], _ => rfl
    f_greatest := f_greatest, d_greatest := _, t_greatest := F_greatest, g_greatest := PySem.W.mg_of X G a_greatest, b_greatest := F_greatest.binds fun _ _ _ _ _ _ us hl => match us, hl with | [_], _ => rfl
    f_plus := f_plus, d_plus := _, t_plus := F_plus, g_plus := PySem.W.mg_of X G a_plus, b_plus := F_plus.binds fun _ _ _ _ _ _ us hl => match us, hl with | [_, _], _ => rfl
    f_times := f_times, d_times := _, t_times := F_times, g_times := PySem.W.mg_of X G a_times, b_times := F_times.binds fun _ _ _ _ _ _ us hl => match us, hl with | [_, _], _ => rfl
    f_check_things := f_check_things, d_check_things := _, t_check_things := F_check_things, g_check_things := PySem.W.mg_of X G a_check_things, b_check_things := F_check_things.binds fun _ _ _ _ _ _ us hl => match us, hl with | [_, _, _], _ => rfl
    f_lots_of := f_lots_of, d_lots_of := _, t_lots_of := F_lots_of, g_lots_of := PySem.W.mg_of X G a_lots_of, b_lots_of := F_lots_of.binds fun _ _ _ _ _ _ us hl => match us, hl with | [_, _, _], _ => rfl
    f_chosen := f_chosen, d_chosen := _, t_chosen := F_chosen, g_chosen := PySem.W.mg_of X G a_chosen, b_chosen := F_chosen.binds fun _ _ _ _ _ _ us hl => match us, hl with | [_, _, _], _ => rfl
    f_is_poly := f_is_poly, d_is_poly := _, t_is_poly := F_is_poly, g_is_poly := PySem.W.mg_of X G a_is_poly, b_is_poly := F_is_poly.binds fun _ _ _ _ _ _ us hl => match us, hl with | [_], _ => rfl
    f_check_poly := f_check_poly, d_check_poly := _, t_check_poly := F_check_poly, g_check_poly := PySem.W.mg_of X G a_check_poly, b_check_poly := F_check_poly.binds fun _ _ _ _ _ _ us hl => match us, hl with | [_], _ => rfl
    f_product := f_product, d_product := _, t_product := F_product, g_product := PySem.W.mg_of X G a_product, b_product := F_product.binds fun _ _ _ _ _ _ us hl => match us, hl with | [_, _], _ => rfl
    f_value := f_value, d_value := _, t_value := F_value, g_value := PySem.W.mg_of X G a_value, b_value := F_value.binds fun _ _ _ _ _ _ us hl => match us, hl with | [_, _], _ => rfl
    f__law_tape := f__law_tape, d__law_tape := _, t__law_tape := F__law_tape, g__law_tape := PySem.W.mg_of X G a__law_tape, b__law_tape := F__law_tape.binds fun _ _ _ _ _ _ us hl => match us, hl with | [_], _ => rfl
    f__law_draw := f__law_draw, d__law_draw := _, t__law_draw := F__law_draw, g__law_draw := PySem.W.mg_of X G a__law_draw, b__law_draw := F__law_draw.binds fun _ _ _ _ _ _ us hl => match us, hl with | [_, _], _ => rfl
    f__law_pick := f__law_pick, d__law_pick := _, t__law_pick := F__law_pick, g__law_pick := PySem.W.mg_of X G a__law_pick, b__law_pick := F__law_pick.binds fun _ _ _ _ _ _ us hl => match us, hl with | [_, _], _ => rfl
    f__law_same := f__law_same, d__law_same := _, t__law_same := F__law_same, g__law_same := PySem.W.mg_of X G a__law_same, b__law_same := F__law_same.binds fun _ _ _ _ _ _ us hl => match us, hl with | [_, _], _ => rfl
    f__law_frac := f__law_frac, d__law_frac := _, t__law_frac := F__law_frac, g__law_frac := PySem.W.mg_of X G a__law_frac, b__law_frac := F__law_frac.binds fun _ _ _ _ _ _ us hl => match us, hl with | [_, _], _ => rfl
    f__law_plus := f__law_plus, d__law_plus := _, t__law_plus := F__law_plus, g__law_plus := PySem.W.mg_of X G a__law_plus, b__law_plus := F__law_plus.binds fun _ _ _ _ _ _ us hl => match us, hl with | [_, _], _ => rfl
    f__law_below := f__law_below, d__law_below := _, t__law_below := F__law_below, g__law_below := PySem.W.mg_of X G a__law_below, b__law_below := F__law_below.binds fun _ _ _ _ _ _ us hl => match us, hl with | [_, _], _ => rfl
    f__law_top := f__law_top, d__law_top := _, t__law_top := F__law_top, g__law_top := PySem.W.mg_of X G a__law_top, b__law_top := F__law_top.binds fun _ _ _ _ _ _ us hl => match us, hl with | [_], _ => rfl
    f__law_sum := f__law_sum, d__law_sum := _, t__law_sum := F__law_sum, g__law_sum := PySem.W.mg_of X G a__law_sum, b__law_sum := F__law_sum.binds fun _ _ _ _ _ _ us hl => match us, hl with | [_], _ => rfl
    f__law_number := f__law_number, d__law_number := _, t__law_number := F__law_number, g__law_number := PySem.W.mg_of X G a__law_number, b__law_number := F__law_number.binds fun _ _ _ _ _ _ us hl => match us, hl with | [_], _ => rfl
    f_law := fa, d_law := _, t_law := F_law, g_law := PySem.W.mg_of X G a_law, b_law := F_law.binds fun _ _ _ _ _ _ us hl => match us, hl with | [_], _ => rfl
    z_abs := PySem.W.mg_none_of X G z_abs
    z_all := PySem.W.mg_none_of X G z_all
    z_bool := PySem.W.mg_none_of X G z_bool
    z_enumerate := PySem.W.mg_none_of X G z_enumerate
    z_int := PySem.W.mg_none_of X G z_int
    z_isinstance := PySem.W.mg_none_of X G z_isinstance
    z_len := PySem.W.mg_none_of X G z_len
    z_range := PySem.W.mg_none_of X G z_range
    z_str := PySem.W.mg_none_of X G z_str
    z_sum := PySem.W.mg_none_of X G z_sum
    z_tuple := PySem.W.mg_none_of X G z_tuple
    z_zip := PySem.W.mg_none_of X G z_zip
    c_MOST_DEGREE := gc_int (PySem.W.mg_of X G q_MOST_DEGREE)
    c_MOST_RULES := gc_int (PySem.W.mg_of X G q_MOST_RULES)
    c_ZERO := gc_ints (is := [0, 1]) (PySem.W.mg_of X G q_ZERO) r_ZERO (by show 2 ≤ sizeLine; decide) (.cons ⟨_, rfl⟩ (.cons ⟨_, rfl⟩ (.nil)))
  }
  exact ⟨_, fun s v => .of_eq rfl, fun base _ _ => ok_law T plain⟩
end FL.K80a
open PySem PySem.W PyProof.Rows
set_option maxHeartbeats 0 in
theorem PySem.Challenge.cw_greatsums_k80_whole_lots_as_products_holds : PySem.Challenge.rw_greatsums_k80_whole_lots_as_products.Holds := by
  w_on; o_law; k_head; (case hw => w_witness2)
  k_fill
  refine L2.walk_of (l := PySem.Challenge.rw_greatsums_k80_whole_lots_as_products) (n := 63) (k := 8) (x := "script") (CX := fun _ => L2.CX0) (sp := fun w => FL.spLaw _) rfl (by decide) rfl ⟨rfl, by decide, by decide⟩ (fun w h Y => PySem.W.kIn_of Y) ?F (fun _ _ a ns hl _ hS => ⟨a, ns, rfl, hS, hl, fun _ => rfl⟩) (fun _ _ _ _ _ h => h)
  case F =>
    intro w mg fa h KX G hmg
    refine' FL.K80a.all_mk KX G hmg ?a_is_integer ?l_is_integer ?c_is_integer ?k_is_integer ?a_divisor ?l_divisor ?c_divisor ?k_divisor ?a_is_ratio ?l_is_ratio ?c_is_ratio ?k_is_ratio ?a_make ?l_make ?c_make ?k_make ?a_add ?l_add ?c_add ?k_add ?a_multiply ?l_multiply ?c_multiply ?k_multiply ?a_less ?l_less ?c_less ?k_less ?a_is_value ?l_is_value ?c_is_value ?k_is_value ?a_is_less ?l_is_less ?c_is_less ?k_is_less ?a_greater ?l_greater ?c_greater ?k_greater ?a_greatest ?l_greatest ?c_greatest ?k_greatest ?a_plus ?l_plus ?c_plus ?k_plus ?a_times ?l_times ?c_times ?k_times ?a_check_things ?l_check_things ?c_check_things ?k_check_things ?a_lots_of ?l_lots_of ?c_lots_of ?k_lots_of ?a_chosen ?l_chosen ?c_chosen ?k_chosen ?a_is_poly ?l_is_poly ?c_is_poly ?k_is_poly ?a_check_poly ?l_check_poly ?c_check_poly ?k_check_poly ?a_product ?l_product ?c_product ?k_product ?a_value ?l_value ?c_value ?k_value ?a__law_tape ?l__law_tape ?c__law_tape ?k__law_tape ?a__law_draw ?l__law_draw ?c__law_draw ?k__law_draw ?a__law_pick ?l__law_pick ?c__law_pick ?k__law_pick ?a__law_same ?l__law_same ?c__law_same ?k__law_same ?a__law_frac ?l__law_frac ?c__law_frac ?k__law_frac ?a__law_plus ?l__law_plus ?c__law_plus ?k__law_plus ?a__law_below ?l__law_below ?c__law_below ?k__law_below ?a__law_top ?l__law_top ?c__law_top ?k__law_top ?a__law_sum ?l__law_sum ?c__law_sum ?k__law_sum ?a__law_number ?l__law_number ?c__law_number ?k__law_number ?a_law ?l_law ?c_law ?k_law ?z_abs ?z_all ?z_bool ?z_enumerate ?z_int ?z_isinstance ?z_len ?z_range ?z_str ?z_sum ?z_tuple ?z_zip ?q_MOST_DEGREE ?q_MOST_RULES ?q_ZERO ?r_ZERO
    (case a_is_integer => k_is); (case l_is_integer => k_is); (case c_is_integer => k_is); (case k_is_integer => k_is)
    (case a_divisor => k_is); (case l_divisor => k_is); (case c_divisor => k_is); (case k_divisor => k_is)
    (case a_is_ratio => k_is); (case l_is_ratio => k_is); (case c_is_ratio => k_is); (case k_is_ratio => k_is)
    (case a_make => k_is); (case l_make => k_is); (case c_make => k_is); (case k_make => k_is)
    (case a_add => k_is); (case l_add => k_is); (case c_add => k_is); (case k_add => k_is)
    (case a_multiply => k_is); (case l_multiply => k_is); (case c_multiply => k_is); (case k_multiply => k_is)
    (case a_less => k_is); (case l_less => k_is); (case c_less => k_is); (case k_less => k_is)
    (case a_is_value => k_is); (case l_is_value => k_is); (case c_is_value => k_is); (case k_is_value => k_is)
    (case a_is_less => k_is); (case l_is_less => k_is); (case c_is_less => k_is); (case k_is_less => k_is)
    (case a_greater => k_is); (case l_greater => k_is); (case c_greater => k_is); (case k_greater => k_is)
    (case a_greatest => k_is); (case l_greatest => k_is); (case c_greatest => k_is); (case k_greatest => k_is)
    (case a_plus => k_is); (case l_plus => k_is); (case c_plus => k_is); (case k_plus => k_is)
    (case a_times => k_is); (case l_times => k_is); (case c_times => k_is); (case k_times => k_is)
    (case a_check_things => k_is); (case l_check_things => k_is); (case c_check_things => k_is); (case k_check_things => k_is)
    (case a_lots_of => k_is); (case l_lots_of => k_is); (case c_lots_of => k_is); (case k_lots_of => k_is)
    (case a_chosen => k_is); (case l_chosen => k_is); (case c_chosen => k_is); (case k_chosen => k_is)
    (case a_is_poly => k_is); (case l_is_poly => k_is); (case c_is_poly => k_is); (case k_is_poly => k_is)
    (case a_check_poly => k_is); (case l_check_poly => k_is); (case c_check_poly => k_is); (case k_check_poly => k_is)
    (case a_product => k_is); (case l_product => k_is); (case c_product => k_is); (case k_product => k_is)
    (case a_value => k_is); (case l_value => k_is); (case c_value => k_is); (case k_value => k_is)
    (case a__law_tape => k_is); (case l__law_tape => k_is); (case c__law_tape => k_is); (case k__law_tape => k_is)
    (case a__law_draw => k_is); (case l__law_draw => k_is); (case c__law_draw => k_is); (case k__law_draw => k_is)
    (case a__law_pick => k_is); (case l__law_pick => k_is); (case c__law_pick => k_is); (case k__law_pick => k_is)
    (case a__law_same => k_is); (case l__law_same => k_is); (case c__law_same => k_is); (case k__law_same => k_is)
    (case a__law_frac => k_is); (case l__law_frac => k_is); (case c__law_frac => k_is); (case k__law_frac => k_is)
    (case a__law_plus => k_is); (case l__law_plus => k_is); (case c__law_plus => k_is); (case k__law_plus => k_is)
    (case a__law_below => k_is); (case l__law_below => k_is); (case c__law_below => k_is); (case k__law_below => k_is)
    (case a__law_top => k_is); (case l__law_top => k_is); (case c__law_top => k_is); (case k__law_top => k_is)
    (case a__law_sum => k_is); (case l__law_sum => k_is); (case c__law_sum => k_is); (case k__law_sum => k_is)
    (case a__law_number => k_is); (case l__law_number => k_is); (case c__law_number => k_is); (case k__law_number => k_is)
    (case a_law => k_is); (case l_law => k_is); (case c_law => k_is); (case k_law => k_is)
    (case z_abs => k_is)
    (case z_all => k_is)
    (case z_bool => k_is)
    (case z_enumerate => k_is)
    (case z_int => k_is)
    (case z_isinstance => k_is)
    (case z_len => k_is)
    (case z_range => k_is)
    (case z_str => k_is)
    (case z_sum => k_is)
    (case z_tuple => k_is)
    (case z_zip => k_is)
    (case q_MOST_DEGREE => k_is)
    (case q_MOST_RULES => k_is)
    (case q_ZERO => k_is); (case r_ZERO => k_is)
