import PyProof.Rows.All
import Wide.All
import OpenK.AllK
import Wide.FinOn
import HandS.ForMost
import HandS.Flow
import HandS.Wide
import HandS.IsInst
import HandS.Walk
import HandS.Zip
import HandS.Conv
import HandS.TupMul
import HandS.TupAny
import HandS.Style
import HandS.TupLe
import KE.GoesMore
import KE.GoesEnum
import HandS.Strs
import HandS.Deep
import HandS.Steps
import HandS.Replace
import PySem.Challenge.RW_greatsums_k75_whole_rows_as_polynomials
set_option Elab.async false
set_option linter.all false
set_option maxRecDepth 100000
set_option maxHeartbeats 2000000
/-! FL: a functional layer over HandS: data D, environments, judgements whose readings are functions -/
noncomputable section
namespace FL
open PySem PySem.Spec PyProof.Rows L2

/-- data: what a value stands for -/
inductive D where
  | non | bl (b : Bool) | int (i : Int) | str (x : Str) | tup (l : List D) | lst (l : List D) | tape
  /-- an instance of the class c (the module's name), its attributes -/
  | obj (c : Str) (ks : List Str) (l : List D)
  /-- a dict: its keys, its values -/
  | dic (ks : List D) (l : List D)
deriving Inhabited

structure Tape where
  cells : List Int
  seed : Int

abbrev TP := Option (Addr × Addr)
def tpl : TP → List Addr
  | none => []
  | some (a, c) => [a, c]
def TapeAt (tp : TP) (H : Hp) (t : Tape) : Prop :=
  ∀ a c, tp = some (a, c) → a ≠ c ∧ H a = some (.lst [.ref c, .int t.seed]) ∧ H c = some (.lst (t.cells.map V.int))
def hid (O : List Addr) (H : Hp) : Hp := fun b => if b ∈ O then none else H b
theorem hid_some {O : List Addr} {H : Hp} {b : Addr} {o : HO} (h : hid O H b = some o) : b ∉ O ∧ H b = some o := by
  unfold hid at h
  split at h
  · cases h
  · rename_i q; exact ⟨q, h⟩
theorem hid_of {O : List Addr} {H : Hp} {b : Addr} {o : HO} (h : b ∉ O) (e : H b = some o) : hid O H b = some o := by
  unfold hid; rw [if_neg h]; exact e
theorem hid_sub {O : List Addr} {H : Hp} : Same (hid O H) H := fun _ _ h => (hid_some h).2
theorem hid_nil {H : Hp} : hid [] H = H := by funext b; simp [hid]
/-- all but the tape is as it was -/
def SameX (tp : TP) (H H' : Hp) : Prop := ∀ b o, H b = some o → b ∉ tpl tp → H' b = some o
theorem SameX.refl {tp : TP} {H : Hp} : SameX tp H H := fun _ _ h _ => h
theorem SameX.trans {tp : TP} {H H1 H2 : Hp} (a : SameX tp H H1) (b : SameX tp H1 H2) : SameX tp H H2 := fun c o h n => b c o (a c o h n) n
theorem SameX.of {tp : TP} {H H' : Hp} (s : Same H H') : SameX tp H H' := fun b o h _ => s b o h
theorem SameX.new {tp : TP} {H : Hp} {p : Addr} {o : HO} (n : H p = none) : SameX tp H (upd H p o) := fun b u h _ => by
  rw [upd_ne (ne_of_none h n)]; exact h
theorem same_new {H : Hp} {p : Addr} {o : HO} (n : H p = none) : Same H (upd H p o) := fun b u h => by
  rw [upd_ne (ne_of_none h n)]; exact h
theorem Same.seqT {K : PySem.W.Frag} {H H' : Hp} {a : Addr} {xs : List V} (e : Same H H') (h : SqT K H a xs) : SqT K H' a xs := by
  rcases h with (h | ⟨o, h⟩) | h
  · exact .inl (.inl (e _ _ h))
  · exact .inl (.inr ⟨o, e _ _ h⟩)
  · exact .inr h

/-- the value v stands for d, all of it to be read in H -/
inductive Rp (K : PySem.W.Frag) (tp : TP) (H : Hp) : V → D → Prop
  | non : Rp K tp H .non .non
  | bl (b : Bool) : Rp K tp H (.bl b) (.bl b)
  | int (i : Int) : Rp K tp H (.int i) (.int i)
  | str (x : Str) : Rp K tp H (.str x) (.str x)
  | tup {a : Addr} {xs : List V} {ds : List D} : SqT K H a xs → xs.length = ds.length → (∀ (i : Nat) (v : V) (d : D), xs[i]? = some v → ds[i]? = some d → Rp K tp H v d) → Rp K tp H (.ref a) (.tup ds)
  | lst {a : Addr} {xs : List V} {ds : List D} : H a = some (.lst xs) → xs.length = ds.length → (∀ (i : Nat) (v : V) (d : D), xs[i]? = some v → ds[i]? = some d → Rp K tp H v d) → Rp K tp H (.ref a) (.lst ds)
  | tape {a c : Addr} : tp = some (a, c) → Rp K tp H (.ref a) .tape
  | obj {a C dx : Addr} {c : Str} {ks : List Str} {xs : List V} {ds : List D} : PySem.W.nsIn K mainGlobals c = some (some (.ref C)) → H a = some (.ins C dx (ks.zip xs)) → ks.length = xs.length → ks.length < 100 → xs.length = ds.length → (∀ (i : Nat) (v : V) (d : D), xs[i]? = some v → ds[i]? = some d → Rp K tp H v d) → Rp K tp H (.ref a) (.obj c ks ds)
section
variable {K : PySem.W.Frag} {tp : TP} {H H' : Hp} {v : V} {d : D}
theorem Rp.mono (s : Same H H') (h : Rp K tp H v d) : Rp K tp H' v d := by
  induction h with
  | non => exact .non
  | bl b => exact .bl b
  | int i => exact .int i
  | str x => exact .str x
  | tup q l _ ih => exact .tup (Same.seqT s q) l ih
  | lst q l _ ih => exact .lst (s _ _ q) l ih
  | tape e => exact .tape e
  | obj hc q hk hk2 l _ ih => exact .obj hc (s _ _ q) hk hk2 l ih
/-- a scalar's value is its own -/
def D.sc : D → Option V
  | .non => some .non
  | .bl b => some (.bl b)
  | .int i => some (.int i)
  | .str x => some (.str x)
  | _ => none
theorem Rp.of_sc (h : d.sc = some v) : Rp K tp H v d := by
  cases d <;> simp [D.sc] at h <;> subst h
  · exact .non
  · exact .bl _
  · exact .int _
  · exact .str _
theorem Rp.int_inv {i : Int} (h : Rp K tp H v (.int i)) : v = .int i := by cases h; rfl
theorem Rp.bl_inv {i : Bool} (h : Rp K tp H v (.bl i)) : v = .bl i := by cases h; rfl
theorem Rp.non_inv (h : Rp K tp H v .non) : v = .non := by cases h; rfl
theorem Rp.str_inv {i : Str} (h : Rp K tp H v (.str i)) : v = .str i := by cases h; rfl
theorem Rp.tup_inv {ds : List D} (h : Rp K tp H v (.tup ds)) : ∃ a xs, v = .ref a ∧ SqT K H a xs ∧ xs.length = ds.length ∧ ∀ (i : Nat) (v : V) (d : D), xs[i]? = some v → ds[i]? = some d → Rp K tp H v d := by
  cases h with
  | tup q l r => exact ⟨_, _, rfl, q, l, r⟩
theorem Rp.lst_inv {ds : List D} (h : Rp K tp H v (.lst ds)) : ∃ a xs, v = .ref a ∧ H a = some (.lst xs) ∧ xs.length = ds.length ∧ ∀ (i : Nat) (v : V) (d : D), xs[i]? = some v → ds[i]? = some d → Rp K tp H v d := by
  cases h with
  | lst q l r => exact ⟨_, _, rfl, q, l, r⟩
end
/-- lists of values -/
def RpL (K : PySem.W.Frag) (tp : TP) (H : Hp) (xs : List V) (ds : List D) : Prop := xs.length = ds.length ∧ ∀ (i : Nat) (v : V) (d : D), xs[i]? = some v → ds[i]? = some d → Rp K tp H v d
section
variable {K : PySem.W.Frag} {tp : TP} {H H' : Hp} {v : V} {d : D} {xs ys : List V} {ds es : List D}
theorem RpL.nil : RpL K tp H [] [] := ⟨rfl, fun i v d e => by simp at e⟩
theorem RpL.cons (a : Rp K tp H v d) (r : RpL K tp H xs ds) : RpL K tp H (v :: xs) (d :: ds) := ⟨by simp [r.1], fun i u e h1 h2 => by
  cases i with
  | zero => simp at h1 h2; subst h1; subst h2; exact a
  | succ i => exact r.2 i u e (by simpa using h1) (by simpa using h2)⟩
theorem RpL.head (r : RpL K tp H (v :: xs) (d :: ds)) : Rp K tp H v d := r.2 0 v d rfl rfl
theorem RpL.tail (r : RpL K tp H (v :: xs) (d :: ds)) : RpL K tp H xs ds := ⟨by have := r.1; simpa using this, fun i u e h1 h2 => r.2 (i + 1) u e (by simpa using h1) (by simpa using h2)⟩
theorem RpL.mono (s : Same H H') (r : RpL K tp H xs ds) : RpL K tp H' xs ds := ⟨r.1, fun i v d h1 h2 => (r.2 i v d h1 h2).mono s⟩
theorem RpL.append (r : RpL K tp H xs ds) (q : RpL K tp H ys es) : RpL K tp H (xs ++ ys) (ds ++ es) := by
  refine ⟨by simp [r.1, q.1], fun i v d h1 h2 => ?_⟩
  by_cases hi : i < xs.length
  · rw [List.getElem?_append_left hi] at h1
    rw [List.getElem?_append_left (by rw [← r.1]; exact hi)] at h2
    exact r.2 i v d h1 h2
  · rw [List.getElem?_append_right (by omega)] at h1
    rw [List.getElem?_append_right (by rw [← r.1]; omega), ← r.1] at h2
    exact q.2 _ v d h1 h2
theorem RpL.one (a : Rp K tp H v d) : RpL K tp H [v] [d] := .cons a .nil
theorem RpL.drop (n : Nat) (r : RpL K tp H xs ds) : RpL K tp H (xs.drop n) (ds.drop n) := ⟨by simp [r.1], fun i v d h1 h2 => by
  rw [List.getElem?_drop] at h1 h2
  exact r.2 _ v d h1 h2⟩
theorem RpL.take (n : Nat) (r : RpL K tp H xs ds) : RpL K tp H (xs.take n) (ds.take n) := ⟨by simp [r.1], fun i v d h1 h2 => by
  rw [List.getElem?_take] at h1 h2
  split at h1
  · rename_i q; rw [if_pos q] at h2; exact r.2 _ v d h1 h2
  · cases h1⟩
theorem RpL.get {i : Nat} (r : RpL K tp H xs ds) (h : ds[i]? = some d) : ∃ v, xs[i]? = some v ∧ Rp K tp H v d := by
  have hi : i < xs.length := by rw [r.1]; exact (List.getElem?_eq_some_iff.mp h).1
  exact ⟨xs[i], List.getElem?_eq_getElem hi, r.2 i _ d (List.getElem?_eq_getElem hi) h⟩
theorem Rp.tupL (h : Rp K tp H v (.tup ds)) : ∃ a xs, v = .ref a ∧ SqT K H a xs ∧ RpL K tp H xs ds := let ⟨a, xs, e, q, l, r⟩ := h.tup_inv; ⟨a, xs, e, q, l, r⟩
theorem Rp.lstL (h : Rp K tp H v (.lst ds)) : ∃ a xs, v = .ref a ∧ H a = some (.lst xs) ∧ RpL K tp H xs ds := let ⟨a, xs, e, q, l, r⟩ := h.lst_inv; ⟨a, xs, e, q, l, r⟩
theorem Rp.tupM {a : Addr} (q : SqT K H a xs) (r : RpL K tp H xs ds) : Rp K tp H (.ref a) (.tup ds) := .tup q r.1 r.2
theorem Rp.lstM {a : Addr} (q : H a = some (.lst xs)) (r : RpL K tp H xs ds) : Rp K tp H (.ref a) (.lst ds) := .lst q r.1 r.2
end

/-- no list within -/
inductive NoL : D → Prop
  | non : NoL .non
  | bl (b : Bool) : NoL (.bl b)
  | int (i : Int) : NoL (.int i)
  | str (x : Str) : NoL (.str x)
  | tup {ds : List D} : (∀ d ∈ ds, NoL d) → NoL (.tup ds)
  | tape : NoL .tape
  | obj {c : Str} {ks : List Str} {ds : List D} : (∀ d ∈ ds, NoL d) → NoL (.obj c ks ds)
/-- what stands without lists stands in all that holds the tuples -/
theorem Rp.noL {K : PySem.W.Frag} {tp : TP} {H : Hp} {v : V} {d : D} {O : List Addr} (n : NoL d) (h : Rp K tp H v d) (hO : ∀ a ∈ O, ∃ xs, H a = some (.lst xs)) : Rp K tp (hid O H) v d := by
  induction n generalizing v with
  | non => cases h; exact .non
  | bl b => cases h; exact .bl b
  | int i => cases h; exact .int i
  | str x => cases h; exact .str x
  | tape => cases h with | tape e => exact .tape e
  | tup _ ih =>
    cases h with
    | tup q l r =>
      refine .tup ?_ l fun i v d h1 h2 => ih d (List.mem_of_getElem? h2) (r i v d h1 h2)
      rcases q with (q | ⟨o, q⟩) | q
      · refine .inl (.inl (hid_of (fun hm => ?_) q))
        obtain ⟨xs, e⟩ := hO _ hm
        rw [q] at e; cases e
      · refine .inl (.inr ⟨o, hid_of (fun hm => ?_) q⟩)
        obtain ⟨xs, e⟩ := hO _ hm
        rw [q] at e; cases e
      · exact .inr q
  | obj _ ih =>
    cases h with
    | obj hc q hk hk2 l r =>
      refine .obj hc (hid_of (fun hm => ?_) q) hk hk2 l fun i v d h1 h2 => ih d (List.mem_of_getElem? h2) (r i v d h1 h2)
      obtain ⟨xs, e⟩ := hO _ hm
      rw [q] at e; cases e

/-- level 0: to be read in Hf; level n + 1: a list of ours at a, its items of level n; F: what is ours -/
def OwnN (K : PySem.W.Frag) (tp : TP) : Nat → Hp → Hp → V → D → List Addr → Prop
  | 0, Hf, _, v, d, F => Rp K tp Hf v d ∧ F = []
  | n + 1, Hf, H, v, d, F => ∃ (a : Addr) (xs : List V) (ds : List D) (Fs : List (List Addr)), v = .ref a ∧ d = .lst ds ∧ H a = some (.lst xs) ∧ xs.length = ds.length ∧ Fs.length = ds.length ∧ F = a :: Fs.flatten ∧
      ∀ (i : Nat) (v : V) (d : D) (Fi : List Addr), xs[i]? = some v → ds[i]? = some d → Fs[i]? = some Fi → OwnN K tp n Hf H v d Fi
section
variable {K : PySem.W.Frag} {tp : TP} {n : Nat} {Hf Hf' H H' : Hp} {v : V} {d : D} {F : List Addr}
theorem OwnN.mono (s : Same Hf Hf') (k : ∀ b o, b ∈ F → H b = some o → H' b = some o) (h : OwnN K tp n Hf H v d F) : OwnN K tp n Hf' H' v d F := by
  induction n generalizing v d F with
  | zero => exact ⟨h.1.mono s, h.2⟩
  | succ n ih =>
    obtain ⟨a, xs, ds, Fs, e1, e2, ha, l1, l2, eF, r⟩ := h
    subst eF
    refine ⟨a, xs, ds, Fs, e1, e2, k a _ List.mem_cons_self ha, l1, l2, rfl, fun i v d Fi h1 h2 h3 => ih (fun b o hb e => k b o (List.mem_cons_of_mem _ (List.mem_flatten.mpr ⟨Fi, List.mem_of_getElem? h3, hb⟩)) e) (r i v d Fi h1 h2 h3)⟩
theorem OwnN.lists (h : OwnN K tp n Hf H v d F) : ∀ a ∈ F, ∃ xs, H a = some (.lst xs) := by
  induction n generalizing v d F with
  | zero => obtain ⟨_, rfl⟩ := h; intro a ha; cases ha
  | succ n ih =>
    obtain ⟨a, xs, ds, Fs, e1, e2, ha, l1, l2, eF, r⟩ := h
    subst eF
    intro b hb
    rcases List.mem_cons.mp hb with e | hb
    · subst e; exact ⟨_, ha⟩
    · obtain ⟨Fi, hF, hb⟩ := List.mem_flatten.mp hb
      obtain ⟨i, hi, e⟩ := List.mem_iff_getElem.mp hF
      have hx : i < xs.length := by omega
      have hd : i < ds.length := by omega
      exact ih (r i xs[i] ds[i] Fi (List.getElem?_eq_getElem hx) (List.getElem?_eq_getElem hd) (by rw [List.getElem?_eq_getElem hi, e])) b hb
/-- ours is to be read in all of the heap -/
theorem OwnN.rp (s : Same Hf H) (h : OwnN K tp n Hf H v d F) : Rp K tp H v d := by
  induction n generalizing v d F with
  | zero => exact h.1.mono s
  | succ n ih =>
    obtain ⟨a, xs, ds, Fs, e1, e2, ha, l1, l2, eF, r⟩ := h
    subst e1 e2
    refine .lst ha l1 fun i v d h1 h2 => ?_
    have hi : i < Fs.length := by rw [l2]; exact (List.getElem?_eq_some_iff.mp h2).1
    exact ih (r i v d _ h1 h2 (List.getElem?_eq_getElem hi))
end
/-- ours, read where it and what was frozen stand -/
theorem OwnN.rpIn {K : PySem.W.Frag} {tp : TP} {n : Nat} {Hf H Hx : Hp} {v : V} {d : D} {F : List Addr} (h : OwnN K tp n Hf H v d F) (s : Same Hf Hx) (k : ∀ b o, b ∈ F → H b = some o → Hx b = some o) : Rp K tp Hx v d := by
  have h' : OwnN K tp n Hx Hx v d F := h.mono s k
  exact h'.rp (Same.refl _)
end FL
set_option maxRecDepth 100000
set_option maxHeartbeats 2000000
noncomputable section
namespace FL
open PySem PySem.Spec PyProof.Rows L2

abbrev Env := List (Option D)
abbrev EM := Env → Tape → Option (D × Tape)
abbrev AM := Env → Tape → Option (List D × Tape)
abbrev BM := Env → Tape → Option (Bool × Tape)
/-- how a value is held: to be read now; ours by levels -/
inductive Kd where
  | b | o (n : Nat) | w (n : Nat) | l

/-- what is ours: by slots, and more of ours (what is made just now) -/
structure Ow where
  e : List Addr
  s : List (List Addr)
def ours (tp : TP) (Fs : Ow) : List Addr := (Fs.e ++ Fs.s.flatten) ++ tpl tp
/-- the state stands for the environment -/
structure RelF (K : PySem.W.Frag) (tp : TP) (B : Hp) (fl : List Nat) (Fs : Ow) (H : Hp) (σ : L2.St) (ρ : Env) (t : Tape) : Prop where
  l1 : fl.length = σ.length
  l2 : ρ.length = σ.length
  l3 : Fs.s.length = σ.length
  nd : (ours tp Fs).Nodup
  tape : TapeAt tp H t
  base : Same B (hid (ours tp Fs) H)
  lists : ∀ a ∈ Fs.e ++ Fs.s.flatten, ∃ xs, H a = some (.lst xs)
  z : ∀ (i : Nat) (F : List Addr), fl[i]? = some 0 → Fs.s[i]? = some F → F = []
  slot : ∀ (i n : Nat) (d : D) (F : List Addr), fl[i]? = some n → ρ[i]? = some (some d) → Fs.s[i]? = some F → ∃ v, σ[i]? = some (some v) ∧ OwnN K tp n (hid (ours tp Fs) H) H v d F

section
variable {K : PySem.W.Frag} {tp : TP} {B H H' H1 H2 : Hp} {fl : List Nat} {Fs : Ow} {σ : L2.St} {ρ : Env} {t t' t1 t2 : Tape} {O : List Addr} {v : V} {d : D} {k : Kd}
theorem TapeAt.lists (h : TapeAt tp H t) : ∀ a ∈ tpl tp, ∃ xs, H a = some (.lst xs) := by
  intro a ha
  cases tp with
  | none => cases ha
  | some p =>
    obtain ⟨p, c⟩ := p
    obtain ⟨_, e1, e2⟩ := h p c rfl
    rcases List.mem_cons.mp ha with z | ha
    · subst z; exact ⟨_, e1⟩
    · rcases List.mem_cons.mp ha with z | ha
      · subst z; exact ⟨_, e2⟩
      · cases ha
theorem RelF.alls (r : RelF K tp B fl Fs H σ ρ t) : ∀ a ∈ ours tp Fs, ∃ xs, H a = some (.lst xs) := fun a ha =>
  (List.mem_append.mp ha).elim (r.lists a) (r.tape.lists a)
theorem RelF.tsub (a : Addr) (h : a ∈ tpl tp) : a ∈ ours tp Fs := List.mem_append_right _ h

/-- O: ours and the tape's, all of them lists of H -/
structure Ok (tp : TP) (O : List Addr) (H : Hp) : Prop where
  ts : ∀ a ∈ tpl tp, a ∈ O
  ls : ∀ a ∈ O, ∃ xs, H a = some (.lst xs)
theorem RelF.ok (r : RelF K tp B fl Fs H σ ρ t) : Ok tp (ours tp Fs) H := ⟨fun a h => RelF.tsub a h, r.alls⟩
/-- frozen, or a list whose items are frozen -/
def Lv (K : PySem.W.Frag) (tp : TP) (O : List Addr) (H : Hp) (v : V) (d : D) : Prop :=
  Rp K tp (hid O H) v d ∨ ∃ (ds : List D) (a : Addr) (xs : List V), d = .lst ds ∧ v = .ref a ∧ a ∉ tpl tp ∧ H a = some (.lst xs) ∧ RpL K tp (hid O H) xs ds
/-- what a value is as it comes -/
def RVal (K : PySem.W.Frag) (tp : TP) (O : List Addr) (H : Hp) (k : Kd) (d : D) (v : V) (H' : Hp) : Prop :=
  match k with
  | .b => Rp K tp (hid (tpl tp) H') v d
  | .o n => ∃ F : List Addr, F.Nodup ∧ (∀ a ∈ F, H a = none) ∧ OwnN K tp n (hid (F ++ O) H') H' v d F
  | .w n => ∃ F : List Addr, F.Nodup ∧ (∀ a ∈ F, a ∈ O ∧ a ∉ tpl tp) ∧ OwnN K tp n (hid O H') H' v d F
  | .l => Lv K tp O H' v d
structure Res (K : PySem.W.Frag) (tp : TP) (O : List Addr) (H : Hp) (k : Kd) (d : D) (t' : Tape) (v : V) (H' : Hp) : Prop where
  same : SameX tp H H'
  tape : TapeAt tp H' t'
  val : RVal K tp O H k d v H'
/-- the same lists, later -/
theorem Ok.step (o : Ok tp O H) (s : SameX tp H H') (ta : TapeAt tp H' t') : Ok tp O H' := ⟨o.ts, fun a ha => by
  by_cases h : a ∈ tpl tp
  · exact ta.lists a h
  · obtain ⟨xs, e⟩ := o.ls a ha
    exact ⟨xs, s a _ e h⟩⟩
theorem Ok.new (o : Ok tp O H) {a : Addr} (h : H a = none) : a ∉ O := fun ha => by
  obtain ⟨xs, e⟩ := o.ls a ha
  rw [h] at e; cases e
theorem hid_step (o : Ok tp O H) (s : SameX tp H H') : Same (hid O H) (hid O H') := fun b u h => by
  obtain ⟨h1, h2⟩ := hid_some h
  exact hid_of h1 (s b u h2 fun z => h1 (o.ts b z))
theorem hidT_step (s : SameX tp H H') : Same (hid (tpl tp) H) (hid (tpl tp) H') := fun b u h => by
  obtain ⟨h1, h2⟩ := hid_some h
  exact hid_of h1 (s b u h2 h1)
theorem RelF.step (r : RelF K tp B fl Fs H σ ρ t) (s : SameX tp H H') (ta : TapeAt tp H' t') : RelF K tp B fl Fs H' σ ρ t' where
  l1 := r.l1
  l2 := r.l2
  l3 := r.l3
  nd := r.nd
  tape := ta
  base := fun b u h => hid_step r.ok s b u (r.base b u h)
  lists := fun a ha => (r.ok.step s ta).ls a (List.mem_append_left _ ha)
  z := r.z
  slot := fun i n d F h1 h2 h3 => by
    obtain ⟨v, e, o⟩ := r.slot i n d F h1 h2 h3
    refine ⟨v, e, o.mono (hid_step r.ok s) fun b u hb hu => s b u hu fun z => ?_⟩
    have hb' : b ∈ Fs.e ++ Fs.s.flatten := List.mem_append_right _ (List.mem_flatten.mpr ⟨F, List.mem_of_getElem? h3, hb⟩)
    exact (List.nodup_append.mp r.nd).2.2 b hb' b z rfl
/-- back: what is new later was new before -/
theorem SameX.back (s : SameX tp H H') (ta : TapeAt tp H' t') {a : Addr} (h : H' a = none) : H a = none := by
  cases e : H a with
  | none => rfl
  | some o =>
    by_cases z : a ∈ tpl tp
    · obtain ⟨xs, q⟩ := ta.lists a z
      rw [h] at q; cases q
    · have q := s a o e z
      rw [h] at q; cases q
theorem Res.trans (s : SameX tp H H1) (ta : TapeAt tp H1 t1) (r : Res K tp O H1 k d t' v H') : Res K tp O H k d t' v H' := by
  refine ⟨s.trans r.same, r.tape, ?_⟩
  have q := r.val
  cases k with
  | b => exact q
  | o n =>
    obtain ⟨F, nd, hF, ow⟩ := q
    exact ⟨F, nd, fun a ha => s.back ta (hF a ha), ow⟩
  | w n => exact q
  | l => exact q
/-- where an operand is to be read -/
def In (K : PySem.W.Frag) (tp : TP) (O : List Addr) (H : Hp) (k : Kd) (v : V) (d : D) : Prop :=
  match k with
  | .b => Rp K tp (hid (tpl tp) H) v d
  | .o _ => Rp K tp (hid O H) v d
  | .w _ => Rp K tp (hid (tpl tp) H) v d
  | .l => Lv K tp O H v d
theorem Lv.step (o : Ok tp O H) (s : SameX tp H H') (h : Lv K tp O H v d) : Lv K tp O H' v d := by
  rcases h with h | ⟨ds, a, xs, e1, e2, nt, e, r⟩
  · exact .inl (h.mono (hid_step o s))
  · exact .inr ⟨ds, a, xs, e1, e2, nt, s a _ e nt, r.mono (hid_step o s)⟩
theorem Lv.lst {ds : List D} (h : Lv K tp O H v (.lst ds)) : ∃ a xs, v = .ref a ∧ H a = some (.lst xs) ∧ RpL K tp (hid O H) xs ds := by
  rcases h with h | ⟨ds', a, xs, e1, e2, nt, e, r⟩
  · obtain ⟨a, xs, e, q, r⟩ := h.lstL
    exact ⟨a, xs, e, (hid_some q).2, r⟩
  · cases e1; exact ⟨a, xs, e2, e, r⟩
theorem Lv.tup {ds : List D} (h : Lv K tp O H v (.tup ds)) : Rp K tp (hid O H) v (.tup ds) := by
  rcases h with h | ⟨ds', a, xs, e1, _⟩
  · exact h
  · cases e1
theorem Lv.brw (o : Ok tp O H) (h : Lv K tp O H v d) : Rp K tp (hid (tpl tp) H) v d := by
  have s : Same (hid O H) (hid (tpl tp) H) := fun b u q => by obtain ⟨h1, h2⟩ := hid_some q; exact hid_of (fun z => h1 (o.ts b z)) h2
  rcases h with h | ⟨ds, a, xs, e1, e2, nt, e, r⟩
  · exact h.mono s
  · subst e1 e2
    exact .lstM (hid_of nt e) (r.mono s)
theorem Lv.all (h : Lv K tp O H v d) : Rp K tp H v d := by
  rcases h with h | ⟨ds, a, xs, e1, e2, nt, e, r⟩
  · exact h.mono hid_sub
  · subst e1 e2
    exact .lstM e (r.mono hid_sub)
theorem In.step (o : Ok tp O H) (s : SameX tp H H') (h : In K tp O H k v d) : In K tp O H' k v d := by
  cases k with
  | b => exact Rp.mono (hidT_step s) h
  | o n => exact Rp.mono (hid_step o s) h
  | w n => exact Rp.mono (hidT_step s) h
  | l => exact Lv.step o s h
theorem In.all (h : In K tp O H k v d) : Rp K tp H v d := by
  cases k with
  | b => exact Rp.mono hid_sub h
  | o n => exact Rp.mono hid_sub h
  | w n => exact Rp.mono hid_sub h
  | l => exact Lv.all h
theorem In.brw (o : Ok tp O H) (h : In K tp O H k v d) : Rp K tp (hid (tpl tp) H) v d := by
  cases k with
  | b => exact h
  | o n => exact Rp.mono (fun b u q => by obtain ⟨h1, h2⟩ := hid_some q; exact hid_of (fun z => h1 (o.ts b z)) h2) h
  | w n => exact h
  | l => exact Lv.brw o h
theorem fresh_ne (ok : Ok tp O H) {F : List Addr} (hF : ∀ a ∈ F, H a = none) {a : Addr} (ha : a ∈ F) : a ∉ O := ok.new (hF a ha)
/-- frozen: what came as ours is to be read among the frozen -/
theorem Res.frz {n : Nat} (ok : Ok tp O H) (r : Res K tp O H (.o n) d t' v H') : Rp K tp (hid O H') v d := by
  obtain ⟨F, nd, hF, ow⟩ := r.val
  refine ow.rpIn (fun b u q => ?_) fun b u hb hu => hid_of (fresh_ne ok hF hb) hu
  obtain ⟨h1, h2⟩ := hid_some q
  exact hid_of (fun z => h1 (List.mem_append_right _ z)) h2
theorem Res.inn (ok : Ok tp O H) (r : Res K tp O H k d t' v H') : In K tp O H' k v d := by
  cases k with
  | b => exact r.val
  | o n => exact r.frz ok
  | w n =>
    obtain ⟨F, nd, hF, ow⟩ := r.val
    refine ow.rpIn (fun b u q => ?_) fun b u hb hu => hid_of (hF b hb).2 hu
    obtain ⟨h1, h2⟩ := hid_some q
    exact hid_of (fun z => h1 (ok.ts b z)) h2
  | l => exact r.val
theorem Res.zero (ok : Ok tp O H) {n : Nat} (r : Res K tp O H (.o n) d t' v H') : Res K tp O H (.o 0) d t' v H' :=
  ⟨r.same, r.tape, [], .nil, (fun a ha => nomatch ha), r.frz ok, rfl⟩
theorem Res.zeroW (ok : Ok tp O H) (r : Res K tp O H (.w 0) d t' v H') : Res K tp O H (.o 0) d t' v H' := by
  obtain ⟨F, nd, hF, ow⟩ := r.val
  exact ⟨r.same, r.tape, [], .nil, (fun a ha => nomatch ha), ow.1, rfl⟩
theorem own1 {Hf : Hp} {F : List Addr} (h : OwnN K tp 1 Hf H v d F) : ∃ (a : Addr) (xs : List V) (ds : List D), v = .ref a ∧ d = .lst ds ∧ H a = some (.lst xs) ∧ RpL K tp Hf xs ds ∧ F = [a] := by
  obtain ⟨a, xs, ds, Fs, e1, e2, ha, l1, l2, eF, r⟩ := h
  have fl : Fs.flatten = [] := by
    rw [List.flatten_eq_nil_iff]
    intro Fi hFi
    obtain ⟨i, hi, e⟩ := List.mem_iff_getElem.mp hFi
    exact (r i xs[i] ds[i] Fi (List.getElem?_eq_getElem (by omega)) (List.getElem?_eq_getElem (by omega)) (by rw [List.getElem?_eq_getElem hi, e])).2
  refine ⟨a, xs, ds, e1, e2, ha, ⟨l1, fun i v d h1 h2 => ?_⟩, by rw [eF, fl]⟩
  have hi : i < Fs.length := by rw [l2]; exact (List.getElem?_eq_some_iff.mp h2).1
  exact (r i v d _ h1 h2 (List.getElem?_eq_getElem hi)).1
theorem Res.l0 (r : Res K tp O H (.o 0) d t' v H') : Res K tp O H .l d t' v H' := ⟨r.same, r.tape, by
  obtain ⟨F, nd, hF, ow, rfl⟩ := r.val
  exact .inl ow⟩
theorem Res.l1 (ok : Ok tp O H) (r : Res K tp O H (.o 1) d t' v H') : Res K tp O H .l d t' v H' := ⟨r.same, r.tape, by
  obtain ⟨F, nd, hF, ow⟩ := r.val
  obtain ⟨a, xs, ds, rfl, rfl, ha, rl, rfl⟩ := own1 ow
  refine .inr ⟨ds, a, xs, rfl, rfl, fun z => ok.new (hF a (by simp)) (ok.ts a z), ha, rl.mono fun b u q => ?_⟩
  obtain ⟨q1, q2⟩ := hid_some q
  exact hid_of (fun z => q1 (List.mem_append_right _ z)) q2⟩
theorem Res.lw (ok : Ok tp O H) (r : Res K tp O H (.w 1) d t' v H') : Res K tp O H .l d t' v H' := ⟨r.same, r.tape, by
  obtain ⟨F, nd, hF, ow⟩ := r.val
  obtain ⟨a, xs, ds, rfl, rfl, ha, rl, rfl⟩ := own1 ow
  exact .inr ⟨ds, a, xs, rfl, rfl, (hF a (by simp)).2, ha, rl⟩⟩
theorem Res.brw (ok : Ok tp O H) (r : Res K tp O H k d t' v H') : Res K tp O H .b d t' v H' :=
  ⟨r.same, r.tape, (r.inn ok).brw (ok.step r.same r.tape)⟩
/-- a value that is to be read among the frozen -/
theorem Res.mk0 (s : SameX tp H H') (ta : TapeAt tp H' t') (h : Rp K tp (hid O H') v d) : Res K tp O H (.o 0) d t' v H' :=
  ⟨s, ta, [], .nil, (fun a ha => nomatch ha), h, rfl⟩
theorem Res.sc (ta : TapeAt tp H t) (h : d.sc = some v) : Res K tp O H (.o 0) d t v H := .mk0 .refl ta (.of_sc h)
theorem TapeAt.new {p : Addr} {o : HO} (ta : TapeAt tp H t) (n : H p = none) : TapeAt tp (upd H p o) t := fun a c e => by
  obtain ⟨h1, h2, h3⟩ := ta a c e
  exact ⟨h1, by rw [upd_ne (ne_of_none h2 n)]; exact h2, by rw [upd_ne (ne_of_none h3 n)]; exact h3⟩
theorem hid_new (ok : Ok tp O H) {p : Addr} {o : HO} (n : H p = none) : Same (hid O H) (hid O (upd H p o)) := hid_step ok (SameX.new n)
/-- a new tuple of frozen items -/
theorem Res.tupN {p : Addr} {xs : List V} {ds : List D} (ok : Ok tp O H) (ta : TapeAt tp H t) (n : H p = none) (r : RpL K tp (hid O H) xs ds) : Res K tp O H (.o 0) (.tup ds) t (.ref p) (upd H p (.tup xs)) :=
  .mk0 (.new n) (ta.new n) (.tupM (.inl (.inl (hid_of (ok.new n) upd_same))) (r.mono (hid_new ok n)))
/-- a new list of frozen items -/
theorem Res.lstN {p : Addr} {xs : List V} {ds : List D} (ok : Ok tp O H) (ta : TapeAt tp H t) (n : H p = none) (r : RpL K tp (hid O H) xs ds) : Res K tp O H (.o 1) (.lst ds) t (.ref p) (upd H p (.lst xs)) := by
  refine ⟨.new n, ta.new n, [p], by simp, fun a ha => by rw [List.mem_singleton.mp ha]; exact n, p, xs, ds, List.replicate ds.length [], rfl, rfl, upd_same, r.1, by simp, by simp, fun i v d Fi h1 h2 h3 => ?_⟩
  refine ⟨(r.2 i v d h1 h2).mono fun b u q => ?_, ?_⟩
  · obtain ⟨q1, q2⟩ := hid_some q
    refine hid_of (fun z => ?_) (by rw [upd_ne (ne_of_none q2 n)]; exact q2)
    rcases List.mem_append.mp z with z | z
    · rw [List.mem_singleton.mp z, n] at q2; cases q2
    · exact q1 z
  · rw [List.getElem?_replicate] at h3
    split at h3 <;> simp_all
end

/-! ### expressions -/
/-- what an expression gives -/
def tE (K : PySem.W.Frag) (tp : TP) (B : Hp) (fl : List Nat) (k : Kd) (m : EM) : TE := fun σ H Q => ∃ Fs ρ t d t', RelF K tp B fl Fs H σ ρ t ∧ m ρ t = some (d, t') ∧ ∀ v H', Res K tp (ours tp Fs) H k d t' v H' → Q v H'
def FE (X : Cx) (tp : TP) (B : Hp) (fl : List Nat) (e : Expr) (k : Kd) (m : EM) : Prop := PE X e (tE X.K tp B fl k m)
theorem PE.imp {X : Cx} {e : Expr} {t u : TE} (h : PE X e t) (i : ∀ σ H Q, u σ H Q → t σ H Q) : PE X e u := ⟨fun pins s σ H Q I q => h.run pins s σ H Q I (i σ H Q q)⟩
theorem PS.imp {X : Cx} {e : Stmt} {t u : TS} (h : PS X e t) (i : ∀ D σ H, u D σ H → t D σ H) : PS X e u := ⟨fun pins s σ H Q I q => h.run pins s σ H Q I (i Q σ H q)⟩
theorem PSs.imp {X : Cx} {e : List Stmt} {t u : TS} (h : PSs X e t) (i : ∀ D σ H, u D σ H → t D σ H) : PSs X e u := ⟨fun pins s σ H Q I q => h.run pins s σ H Q I (i Q σ H q)⟩
theorem PT.imp {X : Cx} {e : Expr} {t u : TT} (h : PT X e t) (i : ∀ σ H Q, u σ H Q → t σ H Q) : PT X e u := ⟨fun pins s σ H Q I q => h.run pins s σ H Q I (i σ H Q q)⟩
theorem PA.imp {X : Cx} {e : List Expr} {t u : TA} (h : PA X e t) (i : ∀ σ H Q, u σ H Q → t σ H Q) : PA X e u := ⟨fun pos pins s σ H Q I q => h.run pos pins s σ H Q I (i σ H Q q)⟩

section
variable {X : Cx} {tp : TP} {B : Hp} {fl : List Nat} {e a b : Expr} {k ka kb : Kd} {m ma mb : EM} {pos : Pos}
/-- weaken: ours to frozen, to borrowed -/
theorem FE.z {n : Nat} (h : FE X tp B fl e (.o n) m) : FE X tp B fl e (.o 0) m := PE.imp h fun σ H Q ⟨Fs, ρ, t, d, t', R, hm, q⟩ => ⟨Fs, ρ, t, d, t', R, hm, fun v H' r => q v H' (r.zero R.ok)⟩
theorem FE.zw (h : FE X tp B fl e (.w 0) m) : FE X tp B fl e (.o 0) m := PE.imp h fun σ H Q ⟨Fs, ρ, t, d, t', R, hm, q⟩ => ⟨Fs, ρ, t, d, t', R, hm, fun v H' r => q v H' (r.zeroW R.ok)⟩
theorem FE.l0 (h : FE X tp B fl e (.o 0) m) : FE X tp B fl e .l m := PE.imp h fun σ H Q ⟨Fs, ρ, t, d, t', R, hm, q⟩ => ⟨Fs, ρ, t, d, t', R, hm, fun v H' r => q v H' r.l0⟩
theorem FE.l1 (h : FE X tp B fl e (.o 1) m) : FE X tp B fl e .l m := PE.imp h fun σ H Q ⟨Fs, ρ, t, d, t', R, hm, q⟩ => ⟨Fs, ρ, t, d, t', R, hm, fun v H' r => q v H' (r.l1 R.ok)⟩
theorem FE.lw (h : FE X tp B fl e (.w 1) m) : FE X tp B fl e .l m := PE.imp h fun σ H Q ⟨Fs, ρ, t, d, t', R, hm, q⟩ => ⟨Fs, ρ, t, d, t', R, hm, fun v H' r => q v H' (r.lw R.ok)⟩
theorem FE.brw (h : FE X tp B fl e k m) : FE X tp B fl e .b m := PE.imp h fun σ H Q ⟨Fs, ρ, t, d, t', R, hm, q⟩ => ⟨Fs, ρ, t, d, t', R, hm, fun v H' r => q v H' (r.brw R.ok)⟩
/-- names -/
def mVar (i : Nat) : EM := fun ρ t => match ρ[i]? with
  | some (some d) => some (d, t)
  | _ => none
theorem mVar_some {i : Nat} {ρ : Env} {t t' : Tape} {d : D} (h : mVar i ρ t = some (d, t')) : ρ[i]? = some (some d) ∧ t' = t := by
  unfold mVar at h
  split at h
  · rename_i x e; cases h; exact ⟨e, rfl⟩
  · cases h
/-- a name, ours as it stands -/
theorem fe_varW (i : Nat) {n : Nat} {x : Str} (hf : fl[i]? = some n := by rfl) (hN : X.N[i]? = some x := by rfl) (hv : Vis X.env.scope x := by first | exact Or.inl rfl | exact Or.inr (Or.inl rfl) | exact Or.inr (Or.inr rfl)) (hd : (x == ("__debug__" : Str)) = false := by decide)
    (hcd : (x == ("__classdict__" : Str)) = false := by decide) : FE X tp B fl (.Name x pos) (.w n) (mVar i) := PE.imp (pe_var hN hv hd hcd) fun σ H Q ⟨Fs, ρ, t, d, t', R, hm, q⟩ => by
  obtain ⟨e, rfl⟩ := mVar_some hm
  have hi : i < Fs.s.length := by rw [R.l3, ← R.l2]; exact (List.getElem?_eq_some_iff.mp e).1
  obtain ⟨v, ev, ow⟩ := R.slot i n d _ hf e (List.getElem?_eq_getElem hi)
  have nd := List.nodup_append.mp R.nd
  refine ⟨v, ev, q v H ⟨.refl, R.tape, Fs.s[i], ((List.nodup_append.mp nd.1).2.1).sublist (List.sublist_flatten_of_mem (List.getElem_mem hi)), fun a ha => ?_, ow⟩⟩
  have hm : a ∈ Fs.e ++ Fs.s.flatten := List.mem_append_right _ (List.mem_flatten.mpr ⟨_, List.getElem_mem hi, ha⟩)
  exact ⟨List.mem_append_left _ hm, fun z => nd.2.2 a hm a z rfl⟩
/-- a name that is frozen -/
theorem fe_var (i : Nat) {x : Str} (hf : fl[i]? = some 0 := by rfl) (hN : X.N[i]? = some x := by rfl) (hv : Vis X.env.scope x := by first | exact Or.inl rfl | exact Or.inr (Or.inl rfl) | exact Or.inr (Or.inr rfl)) (hd : (x == ("__debug__" : Str)) = false := by decide)
    (hcd : (x == ("__classdict__" : Str)) = false := by decide) : FE X tp B fl (.Name x pos) (.o 0) (mVar i) := (fe_varW i hf hN hv hd hcd).zw
/-- a name that is read for now -/
theorem fe_varB (i : Nat) {x : Str} (hl : i < fl.length := by decide) (hN : X.N[i]? = some x := by rfl) (hv : Vis X.env.scope x := by first | exact Or.inl rfl | exact Or.inr (Or.inl rfl) | exact Or.inr (Or.inr rfl)) (hd : (x == ("__debug__" : Str)) = false := by decide)
    (hcd : (x == ("__classdict__" : Str)) = false := by decide) : FE X tp B fl (.Name x pos) .b (mVar i) := (fe_varW i (List.getElem?_eq_getElem hl) hN hv hd hcd).brw
def mC (d : D) : EM := fun _ t => some (d, t)
theorem fe_c {d : D} {v : V} (h : PE X e (tC v)) (hd : d.sc = some v) : FE X tp B fl e (.o 0) (mC d) := PE.imp h fun σ H Q ⟨Fs, ρ, t, d', t', R, hm, q⟩ => by
  cases hm
  exact q v H (.sc R.tape hd)
theorem fe_int {i j p} : FE X tp B fl (.Constant (.int i) j p) (.o 0) (mC (.int i)) := fe_c pe_int rfl
theorem fe_bl {i j p} : FE X tp B fl (.Constant (.bool i) j p) (.o 0) (mC (.bl i)) := fe_c pe_bl rfl
theorem fe_non {j p} : FE X tp B fl (.Constant .none j p) (.o 0) (mC .non) := fe_c pe_non rfl
theorem fe_str {x j p} : FE X tp B fl (.Constant (.str x) j p) (.o 0) (mC (.str x)) := fe_c pe_str rfl
/-- a global of the module that stands for d -/
theorem fe_glob {x : Str} {v : V} {u : Value} {d : D} (hg : Gl X x) (hm : X.mg x = some u) (r : RelV v u) (hr : ∀ H, Rp X.K tp H v d) (hd : (x == ("__debug__" : Str)) = false := by decide) : FE X tp B fl (.Name x pos) (.o 0) (mC d) :=
  PE.imp (pe_glob hg hm r hd) fun σ H Q ⟨Fs, ρ, t, d', t', R, hm, q⟩ => by
    cases hm
    exact q v H (.mk0 .refl R.tape (hr _))

/-! operators -/
def mOp (f : D → D → Option D) (ma mb : EM) : EM := fun ρ t => (ma ρ t).bind fun p => (mb ρ p.2).bind fun q => (f p.1 q.1).map fun d => (d, q.2)
theorem mOp_some {f : D → D → Option D} {ρ : Env} {t t' : Tape} {d : D} (h : mOp f ma mb ρ t = some (d, t')) : ∃ x t1 y, ma ρ t = some (x, t1) ∧ mb ρ t1 = some (y, t') ∧ f x y = some d := by
  unfold mOp at h
  cases e1 : ma ρ t with
  | none => rw [e1] at h; cases h
  | some p =>
    rw [e1] at h
    simp only [Option.bind_some] at h
    cases e2 : mb ρ p.2 with
    | none => rw [e2] at h; cases h
    | some q =>
      rw [e2] at h
      simp only [Option.bind_some] at h
      cases e3 : f p.1 q.1 with
      | none => rw [e3] at h; cases h
      | some z => rw [e3] at h; cases h; exact ⟨p.1, p.2, q.1, rfl, e2, e3⟩
/-- an operator by values: r serves f -/
def OpD (K : PySem.W.Frag) (tp : TP) (r : R2) (ka kb k : Kd) (f : D → D → Option D) : Prop :=
  ∀ (O : List Addr) (H : Hp) (x y : V) (dx dy d : D) (t : Tape) (Q : VK), Ok tp O H → TapeAt tp H t → In K tp O H ka x dx → In K tp O H kb y dy → f dx dy = some d → (∀ v H', Res K tp O H k d t v H' → Q v H') → r x y H Q
theorem tOp_of {r : R2} {f : D → D → Option D} (o : OpD X.K tp r ka kb k f) {σ : L2.St} {H : Hp} {Q : VK} (h : tE X.K tp B fl k (mOp f ma mb) σ H Q) : tOp r (tE X.K tp B fl ka ma) (tE X.K tp B fl kb mb) σ H Q := by
  obtain ⟨Fs, ρ, t, d, t', R, hm, q⟩ := h
  obtain ⟨x, t1, y, h1, h2, h3⟩ := mOp_some hm
  refine ⟨Fs, ρ, t, x, t1, R, h1, fun v1 H1 r1 => ⟨Fs, ρ, t1, y, t', R.step r1.same r1.tape, h2, fun v2 H2 r2 => ?_⟩⟩
  have R1 := R.step r1.same r1.tape
  have R2 := R1.step r2.same r2.tape
  refine o (ours tp Fs) H2 v1 v2 x y d t' Q R2.ok r2.tape ((r1.inn R.ok).step R1.ok r2.same) (r2.inn R1.ok) h3 fun v H' r3 => q v H' ?_
  exact .trans (r1.same.trans r2.same) r2.tape r3
theorem fe_op {op : Operator} {r : R2} {f : D → D → Option D} (ho : OpR X (binaryOp op) r) (o : OpD X.K tp r ka kb k f) (ha : FE X tp B fl a ka ma) (hb : FE X tp B fl b kb mb) : FE X tp B fl (.BinOp a op b pos) k (mOp f ma mb) :=
  PE.imp (pe_op ho ha hb) fun _ _ _ h => tOp_of o h
theorem fe_cmp {op : CmpOp} {r : R2} {f : D → D → Option D} (ho : OpR X (compareOp op) r) (o : OpD X.K tp r ka kb k f) (ha : FE X tp B fl a ka ma) (hb : FE X tp B fl b kb mb) (hm : behindInMarks op b = false := by first | exact nobehind _ (by decide) (by decide) | rfl) : FE X tp B fl (.Compare a [op] [b] pos) k (mOp f ma mb) :=
  PE.imp (pe_cmpR ho ha hb hm) fun _ _ _ h => tOp_of o h
end
end FL
set_option maxRecDepth 100000
set_option maxHeartbeats 2000000
noncomputable section
namespace FL
open PySem PySem.Spec PyProof.Rows L2

/-! ### equality -/
def toPy : Nat → D → PyData
  | 0, _ => .none
  | n + 1, .tup l => .tuple (l.map (toPy n))
  | n + 1, .lst l => .list (l.map (toPy n))
  | _ + 1, .non => .none
  | _ + 1, .bl b => .bool b
  | _ + 1, .int i => .int i
  | _ + 1, .str x => .str x
  | _ + 1, .tape => .none
  | _ + 1, .obj _ _ _ => .none
  | _ + 1, .dic _ _ => .none
/-- of depth below n, without the tape, its texts fit -/
def shp : Nat → D → Bool
  | 0, _ => false
  | n + 1, .tup l => l.all (shp n)
  | n + 1, .lst l => l.all (shp n)
  | _ + 1, .str x => PyData.strOk x
  | _ + 1, .tape => false
  | _ + 1, .obj _ _ _ => false
  | _ + 1, .dic _ _ => false
  | _ + 1, _ => true
/-- the same, without lists -/
def pln : Nat → D → Bool
  | 0, _ => false
  | n + 1, .tup l => l.all (pln n)
  | n + 1, .obj _ _ l => l.all (pln n)
  | _ + 1, .lst _ => false
  | _ + 1, .dic _ _ => false
  | _ + 1, _ => true
theorem pln_noL : ∀ (n : Nat) (d : D), pln n d = true → NoL d
  | 0, _, h => by cases h
  | n + 1, .tup l, h => .tup fun d hd => pln_noL n d (List.all_eq_true.mp h d hd)
  | n + 1, .obj _ _ l, h => .obj fun d hd => pln_noL n d (List.all_eq_true.mp h d hd)
  | n + 1, .lst _, h => by cases h
  | n + 1, .dic _ _, h => by cases h
  | n + 1, .non, _ => .non
  | n + 1, .bl b, _ => .bl b
  | n + 1, .int i, _ => .int i
  | n + 1, .str x, _ => .str x
  | n + 1, .tape, _ => .tape
def deqL (f : D → D → Bool) : List D → List D → Bool
  | [], [] => true
  | x :: xs, y :: ys => f x y && deqL f xs ys
  | _, _ => false
def deq : Nat → D → D → Bool
  | 0, _, _ => false
  | n + 1, .tup l, .tup m => deqL (deq n) l m
  | n + 1, .lst l, .lst m => deqL (deq n) l m
  | _ + 1, .non, .non => true
  | _ + 1, .bl a, .bl b => a == b
  | _ + 1, .bl a, .int j => (if a then 1 else 0) == j
  | _ + 1, .int i, .bl b => i == (if b then 1 else 0)
  | _ + 1, .int i, .int j => i == j
  | _ + 1, .str x, .str y => x == y
  | _ + 1, _, _ => false
theorem deqL_py {n : Nat} (ih : ∀ a b, shp n a = true → shp n b = true → deq n a b = PyData.eqv (toPy n a) (toPy n b)) : ∀ (l m : List D), l.all (shp n) = true → m.all (shp n) = true → deqL (deq n) l m = PyData.eqvAll (l.map (toPy n)) (m.map (toPy n))
  | [], [], _, _ => by simp [deqL, PyData.eqvAll]
  | [], _ :: _, _, _ => by simp [deqL, PyData.eqvAll]
  | _ :: _, [], _, _ => by simp [deqL, PyData.eqvAll]
  | a :: l, b :: m, h1, h2 => by
    simp only [List.all_cons, Bool.and_eq_true] at h1 h2
    simp only [deqL, List.map_cons, PyData.eqvAll, ih a b h1.1 h2.1, deqL_py ih l m h1.2 h2.2]
theorem deq_py : ∀ (n : Nat) (a b : D), shp n a = true → shp n b = true → deq n a b = PyData.eqv (toPy n a) (toPy n b)
  | 0, _, _, h, _ => by cases h
  | n + 1, a, b, h1, h2 => by
    cases a <;> cases b <;> first
      | (simp only [deq, toPy, PyData.eqv]; done)
      | (simp only [shp] at h1 h2; simp only [deq, toPy, PyData.eqv]; exact deqL_py (deq_py n) _ _ h1 h2)
      | (exfalso; simp [shp] at h1; done)
      | (exfalso; simp [shp] at h2; done)
theorem toPy_lay : ∀ (n : Nat) (d : D), shp n d = true → (toPy n d).canLay0 = true
  | 0, _, h => by cases h
  | n + 1, d, h => by
    have all : ∀ l : List D, l.all (shp n) = true → PyData.canLayAll0 (l.map (toPy n)) = true := fun l => by
      induction l with
      | nil => intro _; simp [PyData.canLayAll0]
      | cons a l ih =>
        intro q
        simp only [List.all_cons, Bool.and_eq_true] at q
        simp only [List.map_cons, PyData.canLayAll0, toPy_lay n a q.1, ih q.2, Bool.and_self]
    cases d with
    | tup l => simp only [toPy, PyData.canLay0]; exact all l (by simpa [shp] using h)
    | lst l => simp only [toPy, PyData.canLay0]; exact all l (by simpa [shp] using h)
    | str x => simpa [toPy, PyData.canLay0, shp] using h
    | tape => simp [shp] at h
    | obj c ks l => simp [shp] at h
    | dic ks l => simp [shp] at h
    | non => simp [toPy, PyData.canLay0]
    | bl b => simp [toPy, PyData.canLay0]
    | int b => simp [toPy, PyData.canLay0]
theorem toPy_depth : ∀ (n : Nat) (d : D), (toPy n d).depth ≤ n
  | 0, _ => by simp [toPy, PyData.depth]
  | n + 1, d => by
    have all : ∀ l : List D, PyData.depthAll (l.map (toPy n)) ≤ n := fun l => by
      induction l with
      | nil => simp [PyData.depthAll]
      | cons a l ih => simp only [List.map_cons, PyData.depthAll]; have := toPy_depth n a; omega
    cases d with
    | tup l => simp only [toPy, PyData.depth]; have := all l; omega
    | lst l => simp only [toPy, PyData.depth]; have := all l; omega
    | _ => simp [toPy, PyData.depth]
theorem shaped_of {n : Nat} {d : D} (hn : n ≤ 64) (h : shp n d = true) : SeqAt.shaped (toPy n d) = true := by
  unfold SeqAt.shaped
  rw [toPy_lay n d h, Bool.true_and]
  have := toPy_depth n d
  exact decide_eq_true (by omega)
theorem dpAll {K : PySem.W.Frag} {tp : TP} {H : Hp} {n : Nat} : ∀ (xs : List V) (ds : List D), xs.length = ds.length → (∀ (i : Nat) (v : V) (d : D), xs[i]? = some v → ds[i]? = some d → Dp K H v (toPy n d)) → DpAll K H xs (ds.map (toPy n))
  | [], [], _, _ => .nil
  | [], _ :: _, h, _ => by simp at h
  | _ :: _, [], h, _ => by simp at h
  | x :: xs, d :: ds, h, r => .cons (r 0 x d rfl rfl) (dpAll (tp := tp) xs ds (by simpa using h) fun i v e h1 h2 => r (i + 1) v e (by simpa using h1) (by simpa using h2))
theorem Rp.dp {K : PySem.W.Frag} {tp : TP} {H : Hp} : ∀ (n : Nat) (v : V) (d : D), shp n d = true → Rp K tp H v d → Dp K H v (toPy n d)
  | 0, _, _, h, _ => by cases h
  | n + 1, v, d, h, r => by
    cases r with
    | non => exact .non
    | bl b => exact .bl b
    | int i => exact .int i
    | str x => exact .str x
    | tape e => simp [shp] at h
    | obj _ _ _ _ _ _ => simp [shp] at h
    | tup q l r =>
      simp only [shp] at h
      exact .tup q (dpAll (tp := tp) _ _ l fun i v d h1 h2 => Rp.dp n v d (List.all_eq_true.mp h d (List.mem_of_getElem? h2)) (r i v d h1 h2))
    | lst q l r =>
      simp only [shp] at h
      exact .lst (.inl (.inl q)) (dpAll (tp := tp) _ _ l fun i v d h1 h2 => Rp.dp n v d (List.all_eq_true.mp h d (List.mem_of_getElem? h2)) (r i v d h1 h2))
/-- how deep data may be -/
abbrev dep : Nat := 9
def oEq (x y : D) : Option D := if shp dep x && shp dep y then some (.bl (deq dep x y)) else none
def oNe (x y : D) : Option D := if shp dep x && shp dep y then some (.bl (!deq dep x y)) else none
section
variable {X : Cx} {K : PySem.W.Frag} {tp : TP} {ka kb : Kd}
theorem od_eq : OpD K tp (rEqD K) ka kb (.o 0) oEq := fun O H x y dx dy d t Q ok ta ix iy h q => by
  unfold oEq at h
  split at h
  · rename_i c
    rw [Bool.and_eq_true] at c
    cases h
    refine ⟨toPy dep dx, toPy dep dy, ix.all.dp _ _ _ c.1, iy.all.dp _ _ _ c.2, shaped_of (by decide) c.1, shaped_of (by decide) c.2, ?_⟩
    rw [← deq_py dep dx dy c.1 c.2]
    exact q _ _ (.sc ta rfl)
  · cases h
theorem od_ne : OpD K tp (rNeD K) ka kb (.o 0) oNe := fun O H x y dx dy d t Q ok ta ix iy h q => by
  unfold oNe at h
  split at h
  · rename_i c
    rw [Bool.and_eq_true] at c
    cases h
    refine ⟨toPy dep dx, toPy dep dy, ix.all.dp _ _ _ c.1, iy.all.dp _ _ _ c.2, shaped_of (by decide) c.1, shaped_of (by decide) c.2, ?_⟩
    rw [← deq_py dep dx dy c.1 c.2]
    exact q _ _ (.sc ta rfl)
  · cases h

/-! ### ints -/
def oII (C : Int → Int → Prop) [∀ i j, Decidable (C i j)] (g : Int → Int → D) (x y : D) : Option D := match x, y with
  | .int i, .int j => if C i j then some (g i j) else none
  | _, _ => none
theorem oII_some {C : Int → Int → Prop} [∀ i j, Decidable (C i j)] {g : Int → Int → D} {x y d : D} (h : oII C g x y = some d) : ∃ i j, x = .int i ∧ y = .int j ∧ C i j ∧ d = g i j := by
  unfold oII at h
  split at h
  · split at h
    · rename_i c; cases h; exact ⟨_, _, rfl, rfl, c, rfl⟩
    · cases h
  · cases h
theorem od_ii {C C' : Int → Int → Prop} [∀ i j, Decidable (C i j)] {g : Int → Int → D} {gv : Int → Int → V} (hg : ∀ i j, (g i j).sc = some (gv i j)) (hc : ∀ i j, C i j → C' i j) : OpD K tp (rI C' gv) ka kb (.o 0) (oII C g) := fun O H x y dx dy d t Q ok ta ix iy h q => by
  obtain ⟨i, j, rfl, rfl, c, rfl⟩ := oII_some h
  exact ⟨i, j, ix.all.int_inv, iy.all.int_inv, hc i j c, q _ _ (.sc ta (hg i j))⟩
theorem od_ii0 {g : Int → Int → D} {gv : Int → Int → V} (hg : ∀ i j, (g i j).sc = some (gv i j)) : OpD K tp (rI0 gv) ka kb (.o 0) (oII (fun _ _ => True) g) := fun O H x y dx dy d t Q ok ta ix iy h q => by
  obtain ⟨i, j, rfl, rfl, c, rfl⟩ := oII_some h
  exact ⟨i, j, ix.all.int_inv, iy.all.int_inv, q _ _ (.sc ta (hg i j))⟩
end
end FL
set_option maxRecDepth 100000
set_option maxHeartbeats 2000000
noncomputable section
namespace FL
open PySem PySem.Spec PyProof.Rows L2

/-! ### argument lists, displays -/
structure ResA (K : PySem.W.Frag) (tp : TP) (O : List Addr) (H : Hp) (k : Kd) (ds : List D) (t' : Tape) (vs : List V) (H' : Hp) : Prop where
  same : SameX tp H H'
  tape : TapeAt tp H' t'
  len : vs.length = ds.length
  val : ∀ (i : Nat) (v : V) (d : D), vs[i]? = some v → ds[i]? = some d → In K tp O H' k v d
def tA (K : PySem.W.Frag) (tp : TP) (B : Hp) (fl : List Nat) (k : Kd) (m : AM) : TA := fun σ H Q => ∃ Fs ρ t ds t', RelF K tp B fl Fs H σ ρ t ∧ m ρ t = some (ds, t') ∧ ∀ vs H', ResA K tp (ours tp Fs) H k ds t' vs H' → Q vs H'
def FA (X : Cx) (tp : TP) (B : Hp) (fl : List Nat) (es : List Expr) (k : Kd) (m : AM) : Prop := PA X es (tA X.K tp B fl k m)
def mNil : AM := fun _ t => some ([], t)
def mCons (ma : EM) (mr : AM) : AM := fun ρ t => (ma ρ t).bind fun p => (mr ρ p.2).map fun q => (p.1 :: q.1, q.2)
theorem mCons_some {ma : EM} {mr : AM} {ρ : Env} {t t' : Tape} {ds : List D} (h : mCons ma mr ρ t = some (ds, t')) : ∃ d t1 es, ma ρ t = some (d, t1) ∧ mr ρ t1 = some (es, t') ∧ ds = d :: es := by
  unfold mCons at h
  cases e1 : ma ρ t with
  | none => rw [e1] at h; cases h
  | some p =>
    rw [e1] at h
    simp only [Option.bind_some] at h
    cases e2 : mr ρ p.2 with
    | none => rw [e2] at h; cases h
    | some q => rw [e2] at h; cases h; exact ⟨p.1, p.2, q.1, rfl, e2, rfl⟩
section
variable {X : Cx} {tp : TP} {B : Hp} {fl : List Nat} {e a b : Expr} {es : List Expr} {k ka kb : Kd} {m ma mb : EM} {mr : AM} {pos : Pos}
theorem fa_nil : FA X tp B fl [] k mNil := PA.imp pa_nil fun σ H Q ⟨Fs, ρ, t, ds, t', R, hm, q⟩ => by
  cases hm
  exact q [] H ⟨.refl, R.tape, rfl, fun i v d h => by simp at h⟩
theorem fa_cons (ha : FE X tp B fl e k ma) (hr : FA X tp B fl es k mr) (hs : starEach (e :: es) X.env = (false, eval e X.env) :: starEach es X.env := by rfl) : FA X tp B fl (e :: es) k (mCons ma mr) :=
  PA.imp (pa_cons ha hr hs) fun σ H Q ⟨Fs, ρ, t, ds, t', R, hm, q⟩ => by
    obtain ⟨d, t1, es, h1, h2, rfl⟩ := mCons_some hm
    refine ⟨Fs, ρ, t, d, t1, R, h1, fun v1 H1 r1 => ?_⟩
    have R1 := R.step r1.same r1.tape
    refine ⟨Fs, ρ, t1, es, t', R1, h2, fun vs H2 r2 => q (v1 :: vs) H2 ⟨r1.same.trans r2.same, r2.tape, by simp [r2.len], fun i v d h3 h4 => ?_⟩⟩
    cases i with
    | zero => simp at h3 h4; subst h3; subst h4; exact (r1.inn R.ok).step R1.ok r2.same
    | succ i => exact r2.val i v d (by simpa using h3) (by simpa using h4)
theorem ResA.rpl {K : PySem.W.Frag} {O : List Addr} {H H' : Hp} {n : Nat} {ds : List D} {vs : List V} {t' : Tape} (r : ResA K tp O H (.o n) ds t' vs H') : RpL K tp (hid O H') vs ds := ⟨r.len, r.val⟩
theorem ResA.rplB {K : PySem.W.Frag} {O : List Addr} {H H' : Hp} {ds : List D} {vs : List V} {t' : Tape} (r : ResA K tp O H .b ds t' vs H') : RpL K tp (hid (tpl tp) H') vs ds := ⟨r.len, r.val⟩
/-- (by Classical: the kernel is not to count) -/
def sml (n : Nat) : Bool := @decide (n ≤ 100000) (Classical.propDecidable _)
theorem of_sml {n : Nat} (h : sml n = true) : n ≤ 100000 := @of_decide_eq_true _ (Classical.propDecidable _) h
theorem sml_of {n : Nat} (h : n ≤ 100000) : sml n = true := @decide_eq_true _ (Classical.propDecidable _) h
def small (l : List D) : Bool := sml l.length
theorem small_ok {l : List D} (h : small l = true) : l.length ≤ sizeLine := Nat.le_trans (of_sml h) (by decide)
def mTup (mr : AM) : EM := fun ρ t => (mr ρ t).bind fun p => if small p.1 then some (.tup p.1, p.2) else none
def mLst (mr : AM) : EM := fun ρ t => (mr ρ t).bind fun p => if small p.1 then some (.lst p.1, p.2) else none
theorem mTup_some {ρ : Env} {t t' : Tape} {d : D} (h : mTup mr ρ t = some (d, t')) : ∃ ds, mr ρ t = some (ds, t') ∧ small ds = true ∧ d = .tup ds := by
  unfold mTup at h
  cases e : mr ρ t with
  | none => rw [e] at h; cases h
  | some p =>
    rw [e] at h; simp only [Option.bind_some] at h
    split at h
    · rename_i c; cases h; exact ⟨p.1, rfl, c, rfl⟩
    · cases h
theorem mLst_some {ρ : Env} {t t' : Tape} {d : D} (h : mLst mr ρ t = some (d, t')) : ∃ ds, mr ρ t = some (ds, t') ∧ small ds = true ∧ d = .lst ds := by
  unfold mLst at h
  cases e : mr ρ t with
  | none => rw [e] at h; cases h
  | some p =>
    rw [e] at h; simp only [Option.bind_some] at h
    split at h
    · rename_i c; cases h; exact ⟨p.1, rfl, c, rfl⟩
    · cases h
theorem fe_tup {x1} (h : FA X tp B fl es (.o 0) mr) : FE X tp B fl (.Tuple es x1 pos) (.o 0) (mTup mr) := PE.imp (pe_tup h) fun σ H Q ⟨Fs, ρ, t, d, t', R, hm, q⟩ => by
  obtain ⟨ds, h1, hs, rfl⟩ := mTup_some hm
  refine ⟨Fs, ρ, t, ds, t', R, h1, fun vs H1 r => ⟨by rw [r.len]; exact small_ok hs, fun p hp => q _ _ ?_⟩⟩
  have R1 := R.step r.same r.tape
  exact .trans r.same r.tape (.tupN R1.ok r.tape hp r.rpl)
theorem fe_lst (h : FA X tp B fl es (.o 0) mr) : FE X tp B fl (.List es pos) (.o 1) (mLst mr) := PE.imp (pe_lst h) fun σ H Q ⟨Fs, ρ, t, d, t', R, hm, q⟩ => by
  obtain ⟨ds, h1, hs, rfl⟩ := mLst_some hm
  refine ⟨Fs, ρ, t, ds, t', R, h1, fun vs H1 r => ⟨by rw [r.len]; exact small_ok hs, fun p hp => q _ _ ?_⟩⟩
  have R1 := R.step r.same r.tape
  exact .trans r.same r.tape (.lstN R1.ok r.tape hp r.rpl)

/-! ### calls by values -/
def mCallB (g : List D → Option D) (mr : AM) : EM := fun ρ t => (mr ρ t).bind fun p => (g p.1).map fun d => (d, p.2)
theorem mCallB_some {g : List D → Option D} {ρ : Env} {t t' : Tape} {d : D} (h : mCallB g mr ρ t = some (d, t')) : ∃ ds, mr ρ t = some (ds, t') ∧ g ds = some d := by
  unfold mCallB at h
  cases e : mr ρ t with
  | none => rw [e] at h; cases h
  | some p =>
    rw [e] at h; simp only [Option.bind_some] at h
    cases e2 : g p.1 with
    | none => rw [e2] at h; cases h
    | some z => rw [e2] at h; cases h; exact ⟨p.1, rfl, e2⟩
/-- r serves g: arguments held as ka, the answer as k -/
def CallD (K : PySem.W.Frag) (tp : TP) (r : List V → Hp → VK → Prop) (ka k : Kd) (g : List D → Option D) : Prop :=
  ∀ (O : List Addr) (H : Hp) (vs : List V) (ds : List D) (d : D) (t : Tape) (Q : VK), Ok tp O H → TapeAt tp H t → vs.length = ds.length → (∀ (i : Nat) (v : V) (d : D), vs[i]? = some v → ds[i]? = some d → In K tp O H ka v d) → g ds = some d → (∀ v H', Res K tp O H k d t v H' → Q v H') → r vs H Q
theorem tCB_of {r : List V → Hp → VK → Prop} {g : List D → Option D} (o : CallD X.K tp r ka k g) {σ : L2.St} {H : Hp} {Q : VK} (h : tE X.K tp B fl k (mCallB g mr) σ H Q) : tCB r (tA X.K tp B fl ka mr) σ H Q := by
  obtain ⟨Fs, ρ, t, d, t', R, hm, q⟩ := h
  obtain ⟨ds, h1, h2⟩ := mCallB_some hm
  refine ⟨Fs, ρ, t, ds, t', R, h1, fun vs H1 r1 => ?_⟩
  have R1 := R.step r1.same r1.tape
  exact o _ H1 vs ds d t' Q R1.ok r1.tape r1.len r1.val h2 fun v H' r2 => q v H' (.trans r1.same r1.tape r2)
theorem fe_callB {x : Str} {id : String} {p : Pos} {r : List V → Hp → VK → Prop} {g : List D → Option D} (hc : CallR X (.builtin id) r) (o : CallD X.K tp r ka k g) (hg : Gl X x) (hm : X.mg x = none) (hv : bootBuiltins x = some (.builtin id)) (ha : FA X tp B fl (e :: es) ka mr) (hn : x ≠ "__name__" := by decide) (hdb : (x == ("__debug__" : Str)) = false := by decide)
    (he : starEach (e :: es) X.env = (false, eval e X.env) :: starEach es X.env := by rfl) (hpl : (backTo pos (starEach es X.env)).any (·.1) = false := by rfl) : FE X tp B fl (.Call (.Name x p) (e :: es) [] pos) k (mCallB g mr) :=
  PE.imp (pe_callB hc hg hm hv ha hn hdb he hpl) fun _ _ _ h => tCB_of o h
theorem fe_callTy {x : Str} {T : String} {p : Pos} {r : List V → Hp → VK → Prop} {g : List D → Option D} (hc : CallR X (.type T) r) (o : CallD X.K tp r ka k g) (hg : Gl X x) (hm : X.mg x = none) (hv : bootBuiltins x = some (.type T)) (ha : FA X tp B fl (e :: es) ka mr) (hn : x ≠ "__name__" := by decide) (hdb : (x == ("__debug__" : Str)) = false := by decide)
    (he : starEach (e :: es) X.env = (false, eval e X.env) :: starEach es X.env := by rfl) (hpl : (backTo pos (starEach es X.env)).any (·.1) = false := by rfl) : FE X tp B fl (.Call (.Name x p) (e :: es) [] pos) k (mCallB g mr) :=
  PE.imp (pe_callTy hc hg hm hv ha hn hdb he hpl) fun _ _ _ h => tCB_of o h
theorem one_of {vs : List V} {d : D} {K : PySem.W.Frag} {O : List Addr} {H : Hp} {ka : Kd} (l : vs.length = [d].length) (r : ∀ (i : Nat) (v : V) (e : D), vs[i]? = some v → [d][i]? = some e → In K tp O H ka v e) : ∃ v, vs = [v] ∧ In K tp O H ka v d := by
  match vs, l with
  | [v], _ => exact ⟨v, rfl, r 0 v d rfl rfl⟩
theorem two_of {vs : List V} {d e : D} {K : PySem.W.Frag} {O : List Addr} {H : Hp} {ka : Kd} (l : vs.length = [d, e].length) (r : ∀ (i : Nat) (v : V) (f : D), vs[i]? = some v → [d, e][i]? = some f → In K tp O H ka v f) : ∃ v w, vs = [v, w] ∧ In K tp O H ka v d ∧ In K tp O H ka w e := by
  match vs, l with
  | [v, w], _ => exact ⟨v, w, rfl, r 0 v d rfl rfl, r 1 w e rfl rfl⟩
/-- len -/
def gLen : List D → Option D
  | [.tup l] => some (.int l.length)
  | [.lst l] => some (.int l.length)
  | [.str x] => if sml x.length = true then some (.int x.length) else none
  | _ => none
def rLenA (K : PySem.W.Frag) : List V → Hp → VK → Prop := fun xs H Q => (∃ p ys, xs = [.ref p] ∧ (SqL K H p ys ∨ SqT K H p ys) ∧ Q (.int ys.length) H) ∨ (∃ z, xs = [.str z] ∧ z.length ≤ sizeLine ∧ Q (.int z.length) H)
theorem cr_lenA : CallR X (.builtin "len") (rLenA X.K) := CallR.or call_len_seq call_len_str
theorem cd_len {K : PySem.W.Frag} : CallD K tp (rLenA K) ka (.o 0) gLen := fun O H vs ds d t Q ok ta l r h q => by
  unfold gLen at h
  split at h
  · rename_i l'
    obtain ⟨v, rfl, i⟩ := one_of l r
    obtain ⟨a, xs, rfl, hs, hr⟩ := i.all.tupL
    cases h
    refine .inl ⟨a, xs, rfl, .inr hs, q _ _ (.sc ta ?_)⟩
    show some (V.int _) = some (V.int _)
    rw [hr.1]
  · rename_i l'
    obtain ⟨v, rfl, i⟩ := one_of l r
    obtain ⟨a, xs, rfl, hs, hr⟩ := i.all.lstL
    cases h
    refine .inl ⟨a, xs, rfl, .inl (.inl (.inl hs)), q _ _ (.sc ta ?_)⟩
    show some (V.int _) = some (V.int _)
    rw [hr.1]
  · rename_i x
    obtain ⟨v, rfl, i⟩ := one_of l r
    split at h
    · rename_i c
      cases h
      exact .inr ⟨x, by rw [i.all.str_inv], Nat.le_trans (of_sml c) (by decide), q _ _ (.sc ta rfl)⟩
    · cases h
  · cases h
def gAbs : List D → Option D
  | [.int i] => some (.int (if i < 0 then -i else i))
  | _ => none
theorem cd_abs {K : PySem.W.Frag} : CallD K tp (fun xs H Q => ∃ i, xs = [.int i] ∧ Q (.int (if i < 0 then -i else i)) H) ka (.o 0) gAbs := fun O H vs ds d t Q ok ta l r h q => by
  unfold gAbs at h
  split at h
  · rename_i i
    obtain ⟨v, rfl, iv⟩ := one_of l r
    cases h
    exact ⟨i, by rw [iv.all.int_inv], q _ _ (.sc ta rfl)⟩
  · cases h
def gInt : List D → Option D
  | [.int i] => some (.int i)
  | _ => none
theorem cd_int {K : PySem.W.Frag} : CallD K tp (fun xs H Q => (∃ i, xs = [.int i] ∧ Q (.int i) H) ∨ ∃ k, xs = [.bl k] ∧ Q (.int (if k then 1 else 0)) H) ka (.o 0) gInt := fun O H vs ds d t Q ok ta l r h q => by
  unfold gInt at h
  split at h
  · rename_i i
    obtain ⟨v, rfl, iv⟩ := one_of l r
    cases h
    exact .inl ⟨i, by rw [iv.all.int_inv], q _ _ (.sc ta rfl)⟩
  · cases h
/-- lists of bools, of ints -/
def bls : List D → Option (List Bool)
  | [] => some []
  | .bl b :: r => (bls r).map (b :: ·)
  | _ => none
def ins : List D → Option (List Int)
  | [] => some []
  | .int b :: r => (ins r).map (b :: ·)
  | _ => none
theorem bls_some : ∀ {ds : List D} {bs : List Bool}, bls ds = some bs → ds = bs.map D.bl
  | [], bs, h => by cases h; rfl
  | .bl b :: r, bs, h => by
    simp only [bls] at h
    cases e : bls r with
    | none => rw [e] at h; cases h
    | some cs => rw [e] at h; cases h; rw [bls_some e]; rfl
  | .non :: r, bs, h => by simp [bls] at h
  | .int _ :: r, bs, h => by simp [bls] at h
  | .str _ :: r, bs, h => by simp [bls] at h
  | .tup _ :: r, bs, h => by simp [bls] at h
  | .lst _ :: r, bs, h => by simp [bls] at h
  | .tape :: r, bs, h => by simp [bls] at h
theorem ins_some : ∀ {ds : List D} {bs : List Int}, ins ds = some bs → ds = bs.map D.int
  | [], bs, h => by cases h; rfl
  | .int b :: r, bs, h => by
    simp only [ins] at h
    cases e : ins r with
    | none => rw [e] at h; cases h
    | some cs => rw [e] at h; cases h; rw [ins_some e]; rfl
  | .non :: r, bs, h => by simp [ins] at h
  | .bl _ :: r, bs, h => by simp [ins] at h
  | .str _ :: r, bs, h => by simp [ins] at h
  | .tup _ :: r, bs, h => by simp [ins] at h
  | .lst _ :: r, bs, h => by simp [ins] at h
  | .tape :: r, bs, h => by simp [ins] at h
@[simp] theorem bls_map (bs : List Bool) : bls (bs.map D.bl) = some bs := by
  induction bs with
  | nil => rfl
  | cons b r ih => simp only [List.map_cons, bls, ih, Option.map_some]
@[simp] theorem ins_map (bs : List Int) : ins (bs.map D.int) = some bs := by
  induction bs with
  | nil => rfl
  | cons b r ih => simp only [List.map_cons, ins, ih, Option.map_some]
theorem rpl_sc {K : PySem.W.Frag} {H : Hp} {α : Type} {f : α → D} {g : α → V} (hfg : ∀ x v, Rp K tp H v (f x) → v = g x) : ∀ {ls : List α} {xs : List V}, RpL K tp H xs (ls.map f) → xs = ls.map g
  | [], [], _ => rfl
  | [], _ :: _, r => by have := r.1; simp at this
  | _ :: _, [], r => by have := r.1; simp at this
  | a :: ls, x :: xs, r => by
    rw [List.map_cons] at r
    rw [List.map_cons, hfg a x r.head, rpl_sc hfg r.tail]
def gAll : List D → Option D
  | [.lst l] => (bls l).map fun bs => .bl (bs.all id)
  | _ => none
def gAny : List D → Option D
  | [.lst l] => (bls l).map fun bs => .bl (bs.any id)
  | _ => none
def gSum : List D → Option D
  | [.lst l] => (ins l).map fun bs => .int bs.sum
  | _ => none
theorem cd_all {K : PySem.W.Frag} : CallD K tp (rAll K) ka (.o 0) gAll := fun O H vs ds d t Q ok ta l r h q => by
  unfold gAll at h
  split at h
  · rename_i l'
    obtain ⟨v, rfl, i⟩ := one_of l r
    obtain ⟨a, xs, rfl, hs, hr⟩ := i.all.lstL
    cases e : bls l' with
    | none => rw [e] at h; cases h
    | some bs =>
      rw [e] at h; cases h
      rw [bls_some e] at hr
      have ex := rpl_sc (g := V.bl) (fun x v h => h.bl_inv) hr
      subst ex
      exact ⟨a, bs, rfl, .inl (.inl hs), q _ _ (.sc ta rfl)⟩
  · cases h
theorem cd_any {K : PySem.W.Frag} : CallD K tp (rAny K) ka (.o 0) gAny := fun O H vs ds d t Q ok ta l r h q => by
  unfold gAny at h
  split at h
  · rename_i l'
    obtain ⟨v, rfl, i⟩ := one_of l r
    obtain ⟨a, xs, rfl, hs, hr⟩ := i.all.lstL
    cases e : bls l' with
    | none => rw [e] at h; cases h
    | some bs =>
      rw [e] at h; cases h
      rw [bls_some e] at hr
      have ex := rpl_sc (g := V.bl) (fun x v h => h.bl_inv) hr
      subst ex
      exact ⟨a, bs, rfl, .inl (.inl hs), q _ _ (.sc ta rfl)⟩
  · cases h
theorem cd_sum {K : PySem.W.Frag} : CallD K tp (rSum K) ka (.o 0) gSum := fun O H vs ds d t Q ok ta l r h q => by
  unfold gSum at h
  split at h
  · rename_i l'
    obtain ⟨v, rfl, i⟩ := one_of l r
    obtain ⟨a, xs, rfl, hs, hr⟩ := i.all.lstL
    cases e : ins l' with
    | none => rw [e] at h; cases h
    | some bs =>
      rw [e] at h; cases h
      rw [ins_some e] at hr
      have ex := rpl_sc (g := V.int) (fun x v h => h.int_inv) hr
      subst ex
      exact ⟨a, bs, rfl, .inl (.inl hs), q _ _ (.sc ta rfl)⟩
  · cases h
/-- tuple(list), tuple(tuple) : the items are to be frozen -/
def gTuple : List D → Option D
  | [.lst l] => some (.tup l)
  | [.tup l] => some (.tup l)
  | _ => none
def rTupleOf (K : PySem.W.Frag) : List V → Hp → VK → Prop := fun xs H Q => ∃ p ys, xs = [.ref p] ∧ ((SqL K H p ys ∧ ∀ l, H l = none → Q (.ref l) (upd H l (.tup ys))) ∨ (SqT K H p ys ∧ Q (.ref p) H))
theorem cd_tuple {K : PySem.W.Frag} : CallD K tp (rTupleOf K) .l (.o 0) gTuple := fun O H vs ds d t Q ok ta l r h q => by
  unfold gTuple at h
  split at h
  · rename_i l'
    obtain ⟨v, rfl, i⟩ := one_of l r
    obtain ⟨a, xs, rfl, hs, hr⟩ := Lv.lst (show Lv K tp O H v (.lst l') from i)
    cases h
    exact ⟨a, xs, rfl, .inl ⟨.inl (.inl hs), fun p hp => q _ _ (.tupN ok ta hp hr)⟩⟩
  · rename_i l'
    obtain ⟨v, rfl, i⟩ := one_of l r
    have i' : Rp K tp (hid O H) v (.tup l') := Lv.tup i
    obtain ⟨a, xs, rfl, hs, hr⟩ := i'.tupL
    cases h
    exact ⟨a, xs, rfl, .inr ⟨Same.seqT hid_sub hs, q _ _ (.mk0 .refl ta i')⟩⟩
  · cases h
/-- list(list), list(tuple) -/
def gList : List D → Option D
  | [.lst l] => some (.lst l)
  | [.tup l] => some (.lst l)
  | _ => none
def rListOf (K : PySem.W.Frag) : List V → Hp → VK → Prop := fun xs H Q => ∃ p ys, xs = [.ref p] ∧ (SqL K H p ys ∨ SqT K H p ys) ∧ ∀ l, H l = none → Q (.ref l) (upd H l (.lst ys))
theorem cd_list {K : PySem.W.Frag} : CallD K tp (rListOf K) .l (.o 1) gList := fun O H vs ds d t Q ok ta l r h q => by
  unfold gList at h
  split at h
  · rename_i l'
    obtain ⟨v, rfl, i⟩ := one_of l r
    obtain ⟨a, xs, rfl, hs, hr⟩ := Lv.lst (show Lv K tp O H v (.lst l') from i)
    cases h
    exact ⟨a, xs, rfl, .inl (.inl (.inl hs)), fun p hp => q _ _ (.lstN ok ta hp hr)⟩
  · rename_i l'
    obtain ⟨v, rfl, i⟩ := one_of l r
    have i' : Rp K tp (hid O H) v (.tup l') := Lv.tup i
    obtain ⟨a, xs, rfl, hs, hr⟩ := i'.tupL
    cases h
    exact ⟨a, xs, rfl, .inr (Same.seqT hid_sub hs), fun p hp => q _ _ (.lstN ok ta hp hr)⟩
  · cases h
end
end FL
set_option maxRecDepth 100000
set_option maxHeartbeats 2000000
noncomputable section
namespace FL
open PySem PySem.Spec PyProof.Rows L2

/-! ### tests -/
def tT (K : PySem.W.Frag) (tp : TP) (B : Hp) (fl : List Nat) (m : BM) : TT := fun σ H Q => ∃ Fs ρ t b t', RelF K tp B fl Fs H σ ρ t ∧ m ρ t = some (b, t') ∧ ∀ H', SameX tp H H' → TapeAt tp H' t' → Q b H'
def FT (X : Cx) (tp : TP) (B : Hp) (fl : List Nat) (e : Expr) (m : BM) : Prop := PT X e (tT X.K tp B fl m)
def FW (X : Cx) (tp : TP) (B : Hp) (fl : List Nat) (e : Expr) (m : BM) : Prop := PW X e (tT X.K tp B fl m)
theorem PW.imp {X : Cx} {e : Expr} {t u : TT} (h : PW X e t) (i : ∀ σ H Q, u σ H Q → t σ H Q) : PW X e u := ⟨fun wh pins s σ H Q I q => h.run wh pins s σ H Q I (i σ H Q q)⟩
def mTst (m : EM) : BM := fun ρ t => (m ρ t).bind fun p => match p.1 with
  | .bl b => some (b, p.2)
  | _ => none
theorem mTst_some {m : EM} {ρ : Env} {t t' : Tape} {b : Bool} (h : mTst m ρ t = some (b, t')) : m ρ t = some (.bl b, t') := by
  unfold mTst at h
  cases e : m ρ t with
  | none => rw [e] at h; cases h
  | some p =>
    obtain ⟨d, t1⟩ := p
    rw [e] at h; simp only [Option.bind_some] at h
    split at h
    · cases h; rfl
    · cases h
def mAnd (ma mb : BM) : BM := fun ρ t => (ma ρ t).bind fun p => if p.1 = true then mb ρ p.2 else some (false, p.2)
def mOr (ma mb : BM) : BM := fun ρ t => (ma ρ t).bind fun p => if p.1 = true then some (true, p.2) else mb ρ p.2
def mNot (ma : BM) : BM := fun ρ t => (ma ρ t).map fun p => (!p.1, p.2)
theorem bind_some {α β : Type} {m : Option α} {f : α → Option β} {b : β} (h : m.bind f = some b) : ∃ a, m = some a ∧ f a = some b := by
  cases m with
  | none => cases h
  | some a => exact ⟨a, rfl, h⟩
section
variable {X : Cx} {tp : TP} {B : Hp} {fl : List Nat} {e a b c : Expr} {es rest : List Expr} {k ka kb kc : Kd} {m ma mb mc : EM} {ba bb : BM} {mr : AM} {pos : Pos}
theorem ft_val (h : FE X tp B fl e k m) (he : ∀ whole, isTrue e X.env whole = (do let v ← whole; standAt e.pos; holding [v] (truthy v)) := by intro _; rfl) : FT X tp B fl e (mTst m) :=
  PT.imp (pt_val h he) fun σ H Q ⟨Fs, ρ, t, b, t', R, hm, q⟩ => ⟨Fs, ρ, t, .bl b, t', R, mTst_some hm, fun v H' r => ⟨b, (r.inn R.ok).all.bl_inv, q H' r.same r.tape⟩⟩
theorem ft_cmp {op : CmpOp} {r : R2} {f : D → D → Option D} (ho : OpR X (compareOp op) r) (o : OpD X.K tp r ka kb k f) (ha : FE X tp B fl a ka ma) (hb : FE X tp B fl b kb mb) (hm : behindInMarks op b = false := by first | exact nobehind _ (by decide) (by decide) | rfl) : FT X tp B fl (.Compare a [op] [b] pos) (mTst (mOp f ma mb)) :=
  PT.imp (pt_cmpR ho ha hb hm) fun σ H Q ⟨Fs, ρ, t, b, t', R, hm, q⟩ => tOp_of o ⟨Fs, ρ, t, .bl b, t', R, mTst_some hm, fun v H' r => ⟨b, (r.inn R.ok).all.bl_inv, q H' r.same r.tape⟩⟩
theorem fw_and1 (ha : FT X tp B fl a ba) : FW X tp B fl (.BoolOp .And [a] pos) ba := pw_and1 ha
theorem fw_or1 (ha : FT X tp B fl a ba) : FW X tp B fl (.BoolOp .Or [a] pos) ba := pw_or1 ha
theorem fw_and (ha : FT X tp B fl a ba) (hb : FW X tp B fl (.BoolOp .And (b :: rest) pos) bb) : FW X tp B fl (.BoolOp .And (a :: b :: rest) pos) (mAnd ba bb) :=
  PW.imp (pw_and ha hb) fun σ H Q ⟨Fs, ρ, t, b, t', R, hm, q⟩ => by
    obtain ⟨⟨c, t1⟩, h1, h2⟩ := bind_some hm
    refine ⟨Fs, ρ, t, c, t1, R, h1, fun H1 s1 ta1 => ?_⟩
    cases c with
    | true =>
      simp only [if_true] at h2 ⊢
      exact ⟨Fs, ρ, t1, b, t', R.step s1 ta1, h2, fun H2 s2 ta2 => q H2 (s1.trans s2) ta2⟩
    | false =>
      simp only [Bool.false_eq_true, if_false] at h2 ⊢
      cases h2
      exact q H1 s1 ta1
theorem fw_or (ha : FT X tp B fl a ba) (hb : FW X tp B fl (.BoolOp .Or (b :: rest) pos) bb) : FW X tp B fl (.BoolOp .Or (a :: b :: rest) pos) (mOr ba bb) :=
  PW.imp (pw_or ha hb) fun σ H Q ⟨Fs, ρ, t, b, t', R, hm, q⟩ => by
    obtain ⟨⟨c, t1⟩, h1, h2⟩ := bind_some hm
    refine ⟨Fs, ρ, t, c, t1, R, h1, fun H1 s1 ta1 => ?_⟩
    cases c with
    | false =>
      simp only [Bool.false_eq_true, if_false] at h2 ⊢
      exact ⟨Fs, ρ, t1, b, t', R.step s1 ta1, h2, fun H2 s2 ta2 => q H2 (s1.trans s2) ta2⟩
    | true =>
      simp only [if_true] at h2 ⊢
      cases h2
      exact q H1 s1 ta1
theorem FW.ft (h : FW X tp B fl e ba) : FT X tp B fl e ba := PW.pt h
theorem ft_not (ha : FT X tp B fl a ba) : FT X tp B fl (.UnaryOp .Not a pos) (mNot ba) := PT.imp (pt_not ha) fun σ H Q ⟨Fs, ρ, t, b, t', R, hm, q⟩ => by
  unfold mNot at hm
  cases e : ba ρ t with
  | none => rw [e] at hm; cases hm
  | some p =>
    rw [e] at hm; cases hm
    exact ⟨Fs, ρ, t, p.1, p.2, R, e, fun H' s ta => q H' s ta⟩
/-! as values -/
def mAndV (ma mb : EM) : EM := fun ρ t => (ma ρ t).bind fun p => match p.1 with
  | .bl true => mb ρ p.2
  | .bl false => some (.bl false, p.2)
  | _ => none
def mOrV (ma mb : EM) : EM := fun ρ t => (ma ρ t).bind fun p => match p.1 with
  | .bl false => mb ρ p.2
  | .bl true => some (.bl true, p.2)
  | _ => none
def mNotV (ma : EM) : EM := fun ρ t => (ma ρ t).bind fun p => match p.1 with
  | .bl b => some (.bl (!b), p.2)
  | _ => none
theorem fe_one {op} (h : FE X tp B fl a k m) : FE X tp B fl (.BoolOp op [a] pos) k m := pe_one h
theorem fe_and (ha : FE X tp B fl a ka ma) (hb : FE X tp B fl (.BoolOp .And (b :: rest) pos) (.o 0) mb) : FE X tp B fl (.BoolOp .And (a :: b :: rest) pos) (.o 0) (mAndV ma mb) :=
  PE.imp (pe_and ha hb) fun σ H Q ⟨Fs, ρ, t, d, t', R, hm, q⟩ => by
    obtain ⟨⟨c, t1⟩, h1, h2⟩ := bind_some hm
    simp only at h2
    split at h2
    · exact ⟨Fs, ρ, t, _, t1, R, h1, fun v H1 r => ⟨true, (r.inn R.ok).all.bl_inv, by
        rw [if_pos rfl]
        exact ⟨Fs, ρ, t1, d, t', R.step r.same r.tape, h2, fun v H2 r2 => q v H2 (.trans r.same r.tape r2)⟩⟩⟩
    · cases h2
      exact ⟨Fs, ρ, t, _, _, R, h1, fun v H1 r => ⟨false, (r.inn R.ok).all.bl_inv, by
        rw [if_neg Bool.false_ne_true]
        exact q _ H1 (.trans r.same r.tape (.sc r.tape rfl))⟩⟩
    · cases h2
theorem fe_or (ha : FE X tp B fl a ka ma) (hb : FE X tp B fl (.BoolOp .Or (b :: rest) pos) (.o 0) mb) : FE X tp B fl (.BoolOp .Or (a :: b :: rest) pos) (.o 0) (mOrV ma mb) :=
  PE.imp (pe_or ha hb) fun σ H Q ⟨Fs, ρ, t, d, t', R, hm, q⟩ => by
    obtain ⟨⟨c, t1⟩, h1, h2⟩ := bind_some hm
    simp only at h2
    split at h2
    · exact ⟨Fs, ρ, t, _, t1, R, h1, fun v H1 r => ⟨false, (r.inn R.ok).all.bl_inv, by
        rw [if_neg Bool.false_ne_true]
        exact ⟨Fs, ρ, t1, d, t', R.step r.same r.tape, h2, fun v H2 r2 => q v H2 (.trans r.same r.tape r2)⟩⟩⟩
    · cases h2
      exact ⟨Fs, ρ, t, _, _, R, h1, fun v H1 r => ⟨true, (r.inn R.ok).all.bl_inv, by
        rw [if_pos rfl]
        exact q _ H1 (.trans r.same r.tape (.sc r.tape rfl))⟩⟩
    · cases h2
theorem fe_not (ha : FE X tp B fl a ka ma) : FE X tp B fl (.UnaryOp .Not a pos) (.o 0) (mNotV ma) := PE.imp (pe_not ha) fun σ H Q ⟨Fs, ρ, t, d, t', R, hm, q⟩ => by
  obtain ⟨⟨c, t1⟩, h1, h2⟩ := bind_some hm
  simp only at h2
  split at h2
  · rename_i _ bb
    cases h2
    exact ⟨Fs, ρ, t, _, _, R, h1, fun v H1 r => ⟨bb, (r.inn R.ok).all.bl_inv, q _ H1 (.trans r.same r.tape (.sc r.tape rfl))⟩⟩
  · cases h2
def mIfE (c : BM) (ma mb : EM) : EM := fun ρ t => (c ρ t).bind fun p => if p.1 = true then ma ρ p.2 else mb ρ p.2
theorem fe_if (hc : FT X tp B fl c ba) (ha : FE X tp B fl a k ma) (hb : FE X tp B fl b k mb) : FE X tp B fl (.IfExp c a b pos) k (mIfE ba ma mb) :=
  PE.imp (pe_ifExp hc ha hb) fun σ H Q ⟨Fs, ρ, t, d, t', R, hm, q⟩ => by
    obtain ⟨⟨z, t1⟩, h1, h2⟩ := bind_some hm
    refine ⟨Fs, ρ, t, z, t1, R, h1, fun H1 s1 ta1 => ?_⟩
    cases z with
    | true =>
      simp only [if_true] at h2 ⊢
      exact ⟨Fs, ρ, t1, d, t', R.step s1 ta1, h2, fun v H2 r2 => q v H2 (.trans s1 ta1 r2)⟩
    | false =>
      simp only [Bool.false_eq_true, if_false] at h2 ⊢
      exact ⟨Fs, ρ, t1, d, t', R.step s1 ta1, h2, fun v H2 r2 => q v H2 (.trans s1 ta1 r2)⟩
/-! unary minus -/
def mUn (f : D → Option D) (ma : EM) : EM := fun ρ t => (ma ρ t).bind fun p => (f p.1).map fun d => (d, p.2)
theorem mUn_some {f : D → Option D} {ρ : Env} {t t' : Tape} {d : D} (h : mUn f ma ρ t = some (d, t')) : ∃ x, ma ρ t = some (x, t') ∧ f x = some d := by
  obtain ⟨⟨x, t1⟩, h1, h2⟩ := bind_some h
  simp only at h2
  cases e : f x with
  | none => rw [e] at h2; cases h2
  | some z => rw [e] at h2; cases h2; exact ⟨x, h1, e⟩
def oNeg : D → Option D
  | .int i => some (.int (-i))
  | _ => none
theorem fe_neg (ha : FE X tp B fl a k ma) : FE X tp B fl (.UnaryOp .USub a pos) (.o 0) (mUn oNeg ma) := PE.imp (pe_un un_neg ha) fun σ H Q ⟨Fs, ρ, t, d, t', R, hm, q⟩ => by
  obtain ⟨x, h1, h2⟩ := mUn_some hm
  unfold oNeg at h2
  split at h2
  · rename_i i
    cases h2
    exact ⟨Fs, ρ, t, _, t', R, h1, fun v H1 r => ⟨i, (r.inn R.ok).all.int_inv, q _ H1 (.trans r.same r.tape (.sc r.tape rfl))⟩⟩
  · cases h2
/-! subscripts -/
def rIxA (K : PySem.W.Frag) : R2 := fun x y H Q => rIxT K x y H Q ∨ (rIxL K x y H Q ∨ rIxS x y H Q)
theorem ix_any : IxR X (rIxA X.K) := IxR.or ix_tup (IxR.or ix_list ix_str)
def oIx (x y : D) : Option D := match x, y with
  | .tup l, .int i => atI l i
  | .lst l, .int i => atI l i
  | .str z, .int i => if sml z.length = true then (atI z.cps.toList i).map fun c => .str ⟨#[c]⟩ else none
  | _, _ => none
theorem oIx_str_some {z : Str} {i : Int} {d : D} (h : (if sml z.length = true then (atI z.cps.toList i).map fun c => D.str ⟨#[c]⟩ else none) = some d) : ∃ c, z.length ≤ sizeLine ∧ L2.atI z.cps.toList i = some c ∧ d = .str ⟨#[c]⟩ := by
  split at h
  · rename_i hs
    cases e : L2.atI z.cps.toList i with
    | none => rw [e] at h; cases h
    | some c => rw [e] at h; cases h; exact ⟨c, Nat.le_trans (of_sml hs) (by decide), rfl, rfl⟩
  · cases h
theorem RpL.atI {K : PySem.W.Frag} {H : Hp} {xs : List V} {ds : List D} {i : Int} {d : D} (r : RpL K tp H xs ds) (h : L2.atI ds i = some d) : ∃ v, L2.atI xs i = some v ∧ Rp K tp H v d := by
  unfold L2.atI at h ⊢
  rw [← r.1] at h
  cases e : ixN xs.length i with
  | none => rw [e] at h; cases h
  | some j =>
    rw [e] at h
    exact r.get (show ds[j]? = some d from h)
theorem od_ix {K : PySem.W.Frag} : OpD K tp (rIxA K) .l kb (.o 0) oIx := fun O H x y dx dy d t Q ok ta ix iy h q => by
  unfold oIx at h
  split at h
  · rename_i l i
    obtain ⟨a, xs, rfl, hs, hr⟩ := (Lv.tup ix).tupL
    obtain ⟨v, h1, h2⟩ := hr.atI h
    exact .inl ⟨a, xs, i, v, rfl, iy.all.int_inv, Same.seqT hid_sub hs, h1, q _ _ (.mk0 .refl ta h2)⟩
  · rename_i l i
    obtain ⟨a, xs, rfl, hs, hr⟩ := Lv.lst ix
    obtain ⟨v, h1, h2⟩ := hr.atI h
    exact .inr (.inl ⟨a, xs, i, v, rfl, iy.all.int_inv, .inl (.inl hs), h1, q _ _ (.mk0 .refl ta h2)⟩)
  · rename_i z i
    obtain ⟨c, h1, h2, rfl⟩ := oIx_str_some h
    exact .inr (.inr ⟨z, i, c, (In.all (k := .l) ix).str_inv, iy.all.int_inv, h1, h2, q _ _ (.sc ta rfl)⟩)
  · cases h
theorem od_ixB {K : PySem.W.Frag} : OpD K tp (rIxA K) .b kb .b oIx := fun O H x y dx dy d t Q ok ta ix iy h q => by
  have ix' : Rp K tp (hid (tpl tp) H) x dx := ix
  unfold oIx at h
  split at h
  · rename_i l i
    obtain ⟨a, xs, rfl, hs, hr⟩ := ix'.tupL
    obtain ⟨v, h1, h2⟩ := hr.atI h
    exact .inl ⟨a, xs, i, v, rfl, iy.all.int_inv, Same.seqT hid_sub hs, h1, q _ _ ⟨.refl, ta, h2⟩⟩
  · rename_i l i
    obtain ⟨a, xs, rfl, hs, hr⟩ := ix'.lstL
    obtain ⟨v, h1, h2⟩ := hr.atI h
    exact .inr (.inl ⟨a, xs, i, v, rfl, iy.all.int_inv, .inl (.inl (hid_sub _ _ hs)), h1, q _ _ ⟨.refl, ta, h2⟩⟩)
  · rename_i z i
    obtain ⟨c, h1, h2, rfl⟩ := oIx_str_some h
    exact .inr (.inr ⟨z, i, c, (In.all (k := .b) ix).str_inv, iy.all.int_inv, h1, h2, q _ _ ⟨.refl, ta, .str _⟩⟩)
  · cases h
theorem fe_ix (ha : FE X tp B fl a .l ma) (hb : FE X tp B fl b kb mb) (hs : PlainIx b := by exact fun _ _ => rfl) : FE X tp B fl (.Subscript a b pos) (.o 0) (mOp oIx ma mb) :=
  PE.imp (pe_ix ix_any ha hb hs) fun _ _ _ h => tOp_of od_ix h
theorem fe_ixB (ha : FE X tp B fl a .b ma) (hb : FE X tp B fl b kb mb) (hs : PlainIx b := by exact fun _ _ => rfl) : FE X tp B fl (.Subscript a b pos) .b (mOp oIx ma mb) :=
  PE.imp (pe_ix ix_any ha hb hs) fun _ _ _ h => tOp_of od_ixB h
/-- an item of ours that is ours -/
theorem fe_ixW {n : Nat} (ha : FE X tp B fl a (.w (n + 1)) ma) (hb : FE X tp B fl b kb mb) (hs : PlainIx b := by exact fun _ _ => rfl) : FE X tp B fl (.Subscript a b pos) (.w n) (mOp oIx ma mb) :=
  PE.imp (pe_ix ix_any ha hb hs) fun σ H Q ⟨Fs, ρ, t, d, t', R, hm, q⟩ => by
    obtain ⟨x, t1, y, h1, h2, h3⟩ := mOp_some hm
    refine ⟨Fs, ρ, t, x, t1, R, h1, fun v1 H1 r1 => ⟨Fs, ρ, t1, y, t', R.step r1.same r1.tape, h2, fun v2 H2 r2 => ?_⟩⟩
    have R1 := R.step r1.same r1.tape
    have R2 := R1.step r2.same r2.tape
    obtain ⟨F, nd, hF, ow⟩ := r1.val
    have ow2 : OwnN X.K tp (n + 1) (hid (ours tp Fs) H2) H2 v1 x F := ow.mono (hid_step R1.ok r2.same) fun b o hb e => r2.same b o e (hF b hb).2
    obtain ⟨a, xs, ds, Gs, rfl, rfl, ha, l1, l2, rfl, r⟩ := ow2
    have h3' : ∃ i, y = .int i ∧ atI ds i = some d := by
      unfold oIx at h3
      split at h3
      · rename_i heq; cases heq
      · rename_i heq; cases heq; exact ⟨_, rfl, h3⟩
      · rename_i heq; cases heq
      · cases h3
    obtain ⟨i, rfl, h4⟩ := h3'
    unfold L2.atI at h4
    cases e : ixN ds.length i with
    | none => rw [e] at h4; cases h4
    | some j =>
      rw [e] at h4
      have h5 : ds[j]? = some d := h4
      have hj : j < ds.length := (List.getElem?_eq_some_iff.mp h5).1
      have hx : xs[j]? = some (xs[j]'(by omega)) := List.getElem?_eq_getElem (by omega)
      have hG : Gs[j]? = some (Gs[j]'(by omega)) := List.getElem?_eq_getElem (by omega)
      refine .inr (.inl ⟨a, xs, i, _, rfl, ((r2.inn R1.ok).all.int_inv), .inl (.inl ha), ?_, q _ H2 ⟨r1.same.trans r2.same, r2.tape, Gs[j]'(by omega), ?_, fun z hz => hF z (List.mem_cons_of_mem _ (List.mem_flatten.mpr ⟨_, List.getElem_mem (by omega), hz⟩)), r j _ d _ hx h5 hG⟩⟩)
      · have e' : ixN xs.length i = some j := by rw [l1]; exact e
        unfold L2.atI
        rw [e']
        exact hx
      · have nd2 := (List.nodup_cons.mp nd).2
        exact nd2.sublist (List.sublist_flatten_of_mem (List.getElem_mem (by omega)))
/-! slices -/
def OM := Env → Tape → Option (Option Int × Tape)
def tO (K : PySem.W.Frag) (tp : TP) (B : Hp) (fl : List Nat) (m : OM) : TO := fun σ H Q => ∃ Fs ρ t i t', RelF K tp B fl Fs H σ ρ t ∧ m ρ t = some (i, t') ∧ ∀ H', SameX tp H H' → TapeAt tp H' t' → Q i H'
def FO (X : Cx) (tp : TP) (B : Hp) (fl : List Nat) (e : Option Expr) (m : OM) : Prop := PO X e (tO X.K tp B fl m)
theorem PO.imp {e : Option Expr} {t u : TO} (h : PO X e t) (i : ∀ σ H Q, u σ H Q → t σ H Q) : PO X e u := ⟨fun pins s σ H Q I q => h.run pins s σ H Q I (i σ H Q q)⟩
def mNoO : OM := fun _ t => some (none, t)
def mO (m : EM) : OM := fun ρ t => (m ρ t).bind fun p => match p.1 with
  | .int i => some (some i, p.2)
  | _ => none
theorem fo_none : FO X tp B fl none mNoO := PO.imp po_none fun σ H Q ⟨Fs, ρ, t, i, t', R, hm, q⟩ => by cases hm; exact q H .refl R.tape
theorem fo_some (h : FE X tp B fl e k m) : FO X tp B fl (some e) (mO m) := PO.imp (po_some h) fun σ H Q ⟨Fs, ρ, t, i, t', R, hm, q⟩ => by
  obtain ⟨⟨d, t1⟩, h1, h2⟩ := bind_some hm
  simp only at h2
  split at h2
  · rename_i _ j
    cases h2
    exact ⟨Fs, ρ, t, _, _, R, h1, fun v H1 r => ⟨j, (r.inn R.ok).all.int_inv, q H1 r.same r.tape⟩⟩
  · cases h2
def cutL {α : Type} (xs : List α) (lo hi : Option Int) : List α := (xs.drop (HT.sIx xs.length 0 lo)).take (HT.sIx xs.length xs.length hi - HT.sIx xs.length 0 lo)
theorem cutL_V (xs : List V) (lo hi : Option Int) : cutV xs lo hi = cutL xs lo hi := rfl
theorem RpL.cut {K : PySem.W.Frag} {H : Hp} {xs : List V} {ds : List D} (lo hi : Option Int) (r : RpL K tp H xs ds) : RpL K tp H (cutL xs lo hi) (cutL ds lo hi) := by
  unfold cutL
  rw [← r.1]
  exact (r.drop _).take _
def mSl (f : D → Option Int → Option Int → Option D) (ma : EM) (ml mh : OM) : EM := fun ρ t => (ma ρ t).bind fun p => (ml ρ p.2).bind fun q => (mh ρ q.2).bind fun r => (f p.1 q.1 r.1).map fun d => (d, r.2)
def oSlT (x : D) (lo hi : Option Int) : Option D := match x with
  | .tup l => some (.tup (cutL l lo hi))
  | .str z => if sml z.length = true then some (.str (cutS z lo hi)) else none
  | _ => none
def oSlL (x : D) (lo hi : Option Int) : Option D := match x with
  | .lst l => some (.lst (cutL l lo hi))
  | _ => none
theorem mSl_some {f : D → Option Int → Option Int → Option D} {ml mh : OM} {ρ : Env} {t t' : Tape} {d : D} (h : mSl f ma ml mh ρ t = some (d, t')) : ∃ x t1 lo t2 hi, ma ρ t = some (x, t1) ∧ ml ρ t1 = some (lo, t2) ∧ mh ρ t2 = some (hi, t') ∧ f x lo hi = some d := by
  obtain ⟨⟨x, t1⟩, h1, h2⟩ := bind_some h
  obtain ⟨⟨lo, t2⟩, h3, h4⟩ := bind_some h2
  obtain ⟨⟨hi, t3⟩, h5, h6⟩ := bind_some h4
  simp only at h3 h5 h6
  cases e : f x lo hi with
  | none => rw [e] at h6; cases h6
  | some z => rw [e] at h6; cases h6; exact ⟨x, t1, lo, t2, hi, h1, h3, h5, e⟩
theorem HT_full {α : Type} (xs : List α) (lo hi : Option Int) (h : HT.sIx xs.length 0 lo = 0 ∧ HT.sIx xs.length xs.length hi = xs.length) : cutL xs lo hi = xs := by
  unfold cutL
  rw [h.1, h.2]
  simp
def rSlAny (K : PySem.W.Frag) : V → Option Int → Option Int → Hp → VK → Prop := fun x lo hi H Q => rSlA K x lo hi H Q ∨ rSlS x lo hi H Q
theorem sl_any : SlR X (rSlAny X.K) := SlR.or sl_tupA sl_str
theorem fe_slT {p2 : Pos} {lo hi : Option Expr} {ml mh : OM} (ha : FE X tp B fl a .l ma) (hl : FO X tp B fl lo ml) (hh : FO X tp B fl hi mh) : FE X tp B fl (.Subscript a (.Slice lo hi none p2) pos) (.o 0) (mSl oSlT ma ml mh) :=
  PE.imp (pe_slice sl_any ha hl hh) fun σ H Q ⟨Fs, ρ, t, d, t', R, hm, q⟩ => by
    obtain ⟨x, t1, lo, t2, hi, h1, h2, h3, h4⟩ := mSl_some hm
    refine ⟨Fs, ρ, t, x, t1, R, h1, fun v1 H1 r1 => ?_⟩
    have R1 := R.step r1.same r1.tape
    refine ⟨Fs, ρ, t1, lo, t2, R1, h2, fun H2 s2 ta2 => ?_⟩
    have R2 := R1.step s2 ta2
    refine ⟨Fs, ρ, t2, hi, t', R2, h3, fun H3 s3 ta3 => ?_⟩
    have R3 := R2.step s3 ta3
    have ix : Lv X.K tp (ours tp Fs) H3 v1 x := Lv.step R2.ok s3 (Lv.step R1.ok s2 r1.val)
    have s : SameX tp H H3 := r1.same.trans (s2.trans s3)
    unfold oSlT at h4
    split at h4
    · rename_i l
      cases h4
      have ix' := Lv.tup ix
      obtain ⟨a, xs, rfl, hs, hr⟩ := ix'.tupL
      refine .inl ⟨a, xs, rfl, Same.seqT hid_sub hs, fun hw => ?_, fun hw p hp => ?_⟩
      · rw [hr.1] at hw
        rw [HT_full l lo hi hw] at q
        exact q _ _ (.trans s ta3 (.mk0 .refl ta3 ix'))
      · exact q _ _ (.trans s ta3 (.tupN R3.ok ta3 hp (hr.cut lo hi)))
    · rename_i z
      split at h4
      · rename_i c
        cases h4
        exact .inr ⟨z, by rw [(Lv.all ix).str_inv], Nat.le_trans (of_sml c) (by decide), q _ _ (.trans s ta3 (.sc ta3 rfl))⟩
      · cases h4
    · cases h4
theorem fe_slL {p2 : Pos} {lo hi : Option Expr} {ml mh : OM} (ha : FE X tp B fl a .l ma) (hl : FO X tp B fl lo ml) (hh : FO X tp B fl hi mh) : FE X tp B fl (.Subscript a (.Slice lo hi none p2) pos) (.o 1) (mSl oSlL ma ml mh) :=
  PE.imp (pe_slice sl_list ha hl hh) fun σ H Q ⟨Fs, ρ, t, d, t', R, hm, q⟩ => by
    obtain ⟨x, t1, lo, t2, hi, h1, h2, h3, h4⟩ := mSl_some hm
    refine ⟨Fs, ρ, t, x, t1, R, h1, fun v1 H1 r1 => ?_⟩
    have R1 := R.step r1.same r1.tape
    refine ⟨Fs, ρ, t1, lo, t2, R1, h2, fun H2 s2 ta2 => ?_⟩
    have R2 := R1.step s2 ta2
    refine ⟨Fs, ρ, t2, hi, t', R2, h3, fun H3 s3 ta3 => ?_⟩
    have R3 := R2.step s3 ta3
    have ix : Lv X.K tp (ours tp Fs) H3 v1 x := Lv.step R2.ok s3 (Lv.step R1.ok s2 r1.val)
    have s : SameX tp H H3 := r1.same.trans (s2.trans s3)
    unfold oSlL at h4
    split at h4
    · rename_i l
      cases h4
      obtain ⟨a, xs, rfl, hs, hr⟩ := Lv.lst ix
      exact ⟨a, xs, rfl, .inl (.inl hs), fun p hp => q _ _ (.trans s ta3 (.lstN R3.ok ta3 hp (hr.cut lo hi)))⟩
    · cases h4
/-- xs[::-1] -/
def oRev : D → Option D
  | .lst l => some (.lst l.reverse)
  | _ => none
end
end FL
set_option maxRecDepth 100000
set_option maxHeartbeats 2000000
noncomputable section
namespace FL
open PySem PySem.Spec PyProof.Rows L2

/-! ### the state with new things of ours -/
section
variable {K : PySem.W.Frag} {tp : TP} {B H H' : Hp} {fl : List Nat} {Fs : Ow} {σ : L2.St} {ρ : Env} {t t' : Tape} {E F : List Addr} {S : List (List Addr)} {v : V} {d : D} {n : Nat}
/-- behind an expression that made F -/
theorem RelF.ext (r : RelF K tp B fl Fs H σ ρ t) (s : SameX tp H H') (ta : TapeAt tp H' t') (nd : F.Nodup) (hF : ∀ a ∈ F, H a = none) (hl : ∀ a ∈ F, ∃ xs, H' a = some (.lst xs)) : RelF K tp B fl ⟨F ++ Fs.e, Fs.s⟩ H' σ ρ t' := by
  have eo : ours tp ⟨F ++ Fs.e, Fs.s⟩ = F ++ ours tp Fs := by unfold ours; simp only [List.append_assoc]
  have sub : Same (hid (ours tp Fs) H) (hid (F ++ ours tp Fs) H') := fun b u q => by
    obtain ⟨q1, q2⟩ := hid_some q
    refine hid_of (fun z => ?_) (s b u q2 fun z => q1 (RelF.tsub b z))
    rcases List.mem_append.mp z with z | z
    · rw [hF b z] at q2; cases q2
    · exact q1 z
  refine ⟨r.l1, r.l2, r.l3, ?_, ta, ?_, fun a ha => ?_, r.z, fun i n d G h1 h2 h3 => ?_⟩
  · rw [eo]
    exact List.nodup_append.mpr ⟨nd, r.nd, fun a ha b hb e => by subst e; exact r.ok.new (hF a ha) hb⟩
  · rw [eo]
    exact fun b u q => sub b u (r.base b u q)
  · have ha' : a ∈ F ++ (Fs.e ++ Fs.s.flatten) := by simpa only [List.append_assoc] using ha
    rcases List.mem_append.mp ha' with ha | ha
    · exact hl a ha
    · exact (r.ok.step s ta).ls a (List.mem_append_left _ ha)
  · obtain ⟨w, e, o⟩ := r.slot i n d G h1 h2 h3
    refine ⟨w, e, ?_⟩
    rw [eo]
    refine o.mono sub fun b u hb hu => s b u hu fun z => ?_
    have hb' : b ∈ Fs.e ++ Fs.s.flatten := List.mem_append_right _ (List.mem_flatten.mpr ⟨G, List.mem_of_getElem? h3, hb⟩)
    exact (List.nodup_append.mp r.nd).2.2 b hb' b z rfl
theorem mem_flatten_set {Fs : List (List Addr)} {i : Nat} {F : List Addr} {a : Addr} (h : a ∈ (Fs.set i F).flatten) : a ∈ F ∨ a ∈ Fs.flatten := by
  obtain ⟨G, hG, ha⟩ := List.mem_flatten.mp h
  rcases List.mem_or_eq_of_mem_set hG with z | z
  · exact .inr (List.mem_flatten.mpr ⟨G, z, ha⟩)
  · subst z; exact .inl ha
theorem nodup_set : ∀ {Fs : List (List Addr)} {i : Nat} {F : List Addr}, (F ++ Fs.flatten).Nodup → ((Fs.set i F).flatten).Nodup
  | [], i, F, h => by simp
  | G :: Fs, 0, F, h => by
    simp only [List.set_cons_zero, List.flatten_cons] at h ⊢
    exact h.sublist (List.Sublist.append (List.Sublist.refl _) (List.sublist_append_right _ _))
  | G :: Fs, i + 1, F, h => by
    simp only [List.set_cons_succ, List.flatten_cons] at h ⊢
    have h1 : (F ++ Fs.flatten).Nodup := h.sublist (List.Sublist.append (List.Sublist.refl _) (List.sublist_append_right _ _))
    have ih := nodup_set (i := i) h1
    obtain ⟨n1, n2, n3⟩ := List.nodup_append.mp h
    obtain ⟨n4, n5, n6⟩ := List.nodup_append.mp n2
    refine List.nodup_append.mpr ⟨n4, ih, fun a ha b hb e => ?_⟩
    subst e
    rcases mem_flatten_set hb with z | z
    · exact n3 a z a (List.mem_append_left _ ha) rfl
    · exact n6 a ha a z rfl
/-- what is ours becomes less: the levels tell how -/
theorem RelF.move {fl' : List Nat} {Gs : Ow} {ρ' : Env} {σ' : L2.St} (r : RelF K tp B fl Fs H σ ρ t) (l1 : fl'.length = σ'.length) (l2 : ρ'.length = σ'.length) (l3 : Gs.s.length = σ'.length)
    (memb : ∀ a, a ∈ Gs.e ++ Gs.s.flatten → a ∈ Fs.e ++ Fs.s.flatten) (nd : (Gs.e ++ Gs.s.flatten).Nodup) (hz : ∀ (i : Nat) (F : List Addr), fl'[i]? = some 0 → Gs.s[i]? = some F → F = [])
    (slot : ∀ (i n : Nat) (d : D) (F : List Addr), fl'[i]? = some n → ρ'[i]? = some (some d) → Gs.s[i]? = some F → ∃ v, σ'[i]? = some (some v) ∧ OwnN K tp n (hid (ours tp Gs) H) H v d F) : RelF K tp B fl' Gs H σ' ρ' t := by
  obtain ⟨n1, n2, n3⟩ := List.nodup_append.mp r.nd
  have mm : ∀ a, a ∈ ours tp Gs → a ∈ ours tp Fs := fun a ha => (List.mem_append.mp ha).elim (fun z => List.mem_append_left _ (memb a z)) fun z => List.mem_append_right _ z
  exact ⟨l1, l2, l3, List.nodup_append.mpr ⟨nd, n2, fun a ha b hb e => n3 a (memb a ha) b hb e⟩, r.tape, fun b u q => by
    obtain ⟨q1, q2⟩ := hid_some (r.base b u q)
    exact hid_of (fun z => q1 (mm b z)) q2, fun a ha => r.lists a (memb a ha), hz, slot⟩
theorem sub_ours {Gs : Ow} {H : Hp} (memb : ∀ a, a ∈ Gs.e ++ Gs.s.flatten → a ∈ Fs.e ++ Fs.s.flatten) : Same (hid (ours tp Fs) H) (hid (ours tp Gs) H) := fun b u q => by
  obtain ⟨q1, q2⟩ := hid_some q
  exact hid_of (fun z => q1 ((List.mem_append.mp z).elim (fun z => List.mem_append_left _ (memb b z)) fun z => List.mem_append_right _ z)) q2
/-- a value of ours is stored in slot i -/
theorem RelF.store (r : RelF K tp B fl ⟨F ++ E, S⟩ H σ ρ t) (i : Nat) (ow : OwnN K tp n (hid (ours tp ⟨F ++ E, S⟩) H) H v d F) : RelF K tp B (fl.set i n) ⟨E, S.set i F⟩ H (σ.set i (some v)) (ρ.set i (some d)) t := by
  have l1 := r.l1
  have l2 := r.l2
  have l3 : S.length = σ.length := r.l3
  have memb : ∀ a, a ∈ E ++ (S.set i F).flatten → a ∈ (F ++ E) ++ S.flatten := fun a ha => by
    rcases List.mem_append.mp ha with z | z
    · exact List.mem_append_left _ (List.mem_append_right _ z)
    · rcases mem_flatten_set z with z | z
      · exact List.mem_append_left _ (List.mem_append_left _ z)
      · exact List.mem_append_right _ z
  have nd0 : (F ++ (E ++ S.flatten)).Nodup := by
    have := (List.nodup_append.mp r.nd).1
    simpa only [List.append_assoc] using this
  obtain ⟨m1, m2, m3⟩ := List.nodup_append.mp nd0
  obtain ⟨m4, m5, m6⟩ := List.nodup_append.mp m2
  have sub := sub_ours (Fs := ⟨F ++ E, S⟩) (Gs := ⟨E, S.set i F⟩) (tp := tp) (H := H) memb
  refine r.move (by simp [l1]) (by simp [l2]) (by simp [l3]) memb (List.nodup_append.mpr ⟨m4, nodup_set (List.nodup_append.mpr ⟨m1, m5, fun a ha b hb e => m3 a ha b (List.mem_append_right _ hb) e⟩), fun a ha b hb e => ?_⟩) (fun j G h1 h2 => ?_) fun j m e G h1 h2 h3 => ?_
  · subst e
    rcases mem_flatten_set hb with z | z
    · exact m3 a z a (List.mem_append_left _ ha) rfl
    · exact m6 a ha a z rfl
  · by_cases hj : i = j
    · subst hj
      have hi : i < fl.length := by have := (List.getElem?_eq_some_iff.mp h1).1; simpa using this
      rw [List.getElem?_set_self hi] at h1
      rw [show (Ow.s ⟨E, S.set i F⟩) = S.set i F from rfl, List.getElem?_set_self (by omega)] at h2
      cases h1; cases h2
      exact ow.2
    · rw [List.getElem?_set_ne hj] at h1
      rw [show (Ow.s ⟨E, S.set i F⟩) = S.set i F from rfl, List.getElem?_set_ne hj] at h2
      exact r.z j G h1 h2
  · by_cases hj : i = j
    · subst hj
      have hi : i < ρ.length := by have := (List.getElem?_eq_some_iff.mp h2).1; simpa using this
      rw [List.getElem?_set_self (by omega)] at h1
      rw [List.getElem?_set_self hi] at h2
      rw [show (Ow.s ⟨E, S.set i F⟩) = S.set i F from rfl, List.getElem?_set_self (by omega)] at h3
      cases h1; cases h2; cases h3
      exact ⟨v, by rw [List.getElem?_set_self (by omega)], ow.mono sub fun b u _ q => q⟩
    · rw [List.getElem?_set_ne hj] at h1 h2
      rw [show (Ow.s ⟨E, S.set i F⟩) = S.set i F from rfl, List.getElem?_set_ne hj] at h3
      obtain ⟨w, e1, o⟩ := r.slot j m e G h1 h2 h3
      exact ⟨w, by rw [List.getElem?_set_ne hj]; exact e1, o.mono sub fun b u _ q => q⟩
/-- a frozen value is stored -/
theorem RelF.store0 (r : RelF K tp B fl Fs H σ ρ t) (i : Nat) (h : Rp K tp (hid (ours tp Fs) H) v d) : RelF K tp B (fl.set i 0) ⟨Fs.e, Fs.s.set i []⟩ H (σ.set i (some v)) (ρ.set i (some d)) t :=
  RelF.store (F := []) (E := Fs.e) (S := Fs.s) r i ⟨h, rfl⟩
/-- levels are forgotten -/
theorem RelF.frz1 (r : RelF K tp B fl Fs H σ ρ t) (i : Nat) : RelF K tp B (fl.set i 0) ⟨Fs.e, Fs.s.set i []⟩ H σ ρ t := by
  have l1 := r.l1
  have l2 := r.l2
  have l3 : Fs.s.length = σ.length := r.l3
  have memb : ∀ a, a ∈ Fs.e ++ (Fs.s.set i []).flatten → a ∈ Fs.e ++ Fs.s.flatten := fun a ha => by
    rcases List.mem_append.mp ha with z | z
    · exact List.mem_append_left _ z
    · rcases mem_flatten_set z with z | z
      · cases z
      · exact List.mem_append_right _ z
  have sub := sub_ours (Fs := Fs) (Gs := ⟨Fs.e, Fs.s.set i []⟩) (tp := tp) (H := H) memb
  obtain ⟨n1, n2, n3⟩ := List.nodup_append.mp r.nd
  obtain ⟨m4, m5, m6⟩ := List.nodup_append.mp n1
  refine r.move (by simp [l1]) l2 (by simp [l3]) memb (List.nodup_append.mpr ⟨m4, nodup_set (by simpa using m5), fun a ha b hb e => ?_⟩) (fun j G h1 h2 => ?_) fun j m e G h1 h2 h3 => ?_
  · subst e
    rcases mem_flatten_set hb with z | z
    · cases z
    · exact m6 a ha a z rfl
  · by_cases hj : i = j
    · subst hj
      have hi : i < fl.length := by have := (List.getElem?_eq_some_iff.mp h1).1; simpa using this
      rw [show (Ow.s ⟨Fs.e, Fs.s.set i []⟩) = Fs.s.set i [] from rfl, List.getElem?_set_self (by omega)] at h2
      cases h2; rfl
    · rw [List.getElem?_set_ne hj] at h1
      rw [show (Ow.s ⟨Fs.e, Fs.s.set i []⟩) = Fs.s.set i [] from rfl, List.getElem?_set_ne hj] at h2
      exact r.z j G h1 h2
  · by_cases hj : i = j
    · subst hj
      have hi : i < ρ.length := (List.getElem?_eq_some_iff.mp h2).1
      have hf : i < fl.length := by omega
      have hF : i < Fs.s.length := by omega
      rw [List.getElem?_set_self hf] at h1
      rw [show (Ow.s ⟨Fs.e, Fs.s.set i []⟩) = Fs.s.set i [] from rfl, List.getElem?_set_self hF] at h3
      cases h1; cases h3
      obtain ⟨w, e1, o⟩ := r.slot i _ e _ (List.getElem?_eq_getElem hf) h2 (List.getElem?_eq_getElem hF)
      refine ⟨w, e1, o.rpIn sub fun b u hb hu => hid_of (fun z => ?_) hu, rfl⟩
      have hbF : b ∈ Fs.s.flatten := List.mem_flatten.mpr ⟨_, List.getElem_mem hF, hb⟩
      rcases List.mem_append.mp z with z | z
      · rcases List.mem_append.mp z with z | z
        · exact m6 b z b hbF rfl
        · obtain ⟨G, hG, hbG⟩ := List.mem_flatten.mp z
          obtain ⟨j, hj, eG⟩ := List.mem_iff_getElem.mp hG
          by_cases hij : i = j
          · subst hij
            rw [List.getElem_set_self] at eG
            rw [← eG] at hbG; cases hbG
          · rw [List.getElem_set_ne hij] at eG
            have hj' : j < Fs.s.length := by simpa using hj
            have pw := List.pairwise_iff_getElem.mp (List.pairwise_flatten.mp m5).2
            rw [← eG] at hbG
            rcases Nat.lt_or_gt_of_ne hij with q | q
            · exact pw i j hF hj' q b hb b hbG rfl
            · exact pw j i hj' hF q b hbG b hb rfl
      · exact n3 b (List.mem_append_right _ hbF) b z rfl
    · rw [List.getElem?_set_ne hj] at h1
      rw [show (Ow.s ⟨Fs.e, Fs.s.set i []⟩) = Fs.s.set i [] from rfl, List.getElem?_set_ne hj] at h3
      obtain ⟨w, e1, o⟩ := r.slot j m e G h1 h2 h3
      exact ⟨w, e1, o.mono sub fun b u _ q => q⟩
end

theorem ours_set0 {tp : TP} {Fs : Ow} {i : Nat} {a : Addr} (ha : a ∈ ours tp ⟨Fs.e, Fs.s.set i []⟩) : a ∈ ours tp Fs := by
  rcases List.mem_append.mp ha with z | z
  · rcases List.mem_append.mp z with z | z
    · exact List.mem_append_left _ (List.mem_append_left _ z)
    · rcases mem_flatten_set z with z | z
      · cases z
      · exact List.mem_append_left _ (List.mem_append_right _ z)
  · exact List.mem_append_right _ z
/-! ### targets of frozen values -/
abbrev GM := D → Env → Option Env
/-- what a store of frozen values at ws leaves -/
structure Stored (tp : TP) (fl : List Nat) (ws : List Nat) (Fs Fs' : Ow) (σ σ' : L2.St) : Prop where
  sub : ∀ a, a ∈ ours tp Fs' → a ∈ ours tp Fs
  sup : (∀ j ∈ ws, fl[j]? = some 0) → ∀ a, a ∈ ours tp Fs → a ∈ ours tp Fs'
  len : σ'.length = σ.length
  out : ∀ j, j ∉ ws → σ'[j]? = σ[j]?
def tG (K : PySem.W.Frag) (tp : TP) (B : Hp) (fl fl' ws : List Nat) (m : GM) : TG := fun v σ H Q => ∃ Fs ρ t d ρ', RelF K tp B fl Fs H σ ρ t ∧ Rp K tp (hid (ours tp Fs) H) v d ∧ m d ρ = some ρ' ∧ ∀ σ' Fs', Stored tp fl ws Fs Fs' σ σ' → RelF K tp B fl' Fs' H σ' ρ' t → Q σ' H
def FG (X : Cx) (tp : TP) (B : Hp) (fl fl' ws : List Nat) (tg : Expr) (m : GM) : Prop := PG X tg (tG X.K tp B fl fl' ws m)
abbrev GMs := List D → Env → Option Env
def tGs (K : PySem.W.Frag) (tp : TP) (B : Hp) (fl fl' ws : List Nat) (m : GMs) : TGs := fun vs σ H Q => ∃ Fs ρ t ds ρ', RelF K tp B fl Fs H σ ρ t ∧ RpL K tp (hid (ours tp Fs) H) vs ds ∧ m ds ρ = some ρ' ∧ ∀ σ' Fs', Stored tp fl ws Fs Fs' σ σ' → RelF K tp B fl' Fs' H σ' ρ' t → Q σ' H
def FGs (X : Cx) (tp : TP) (B : Hp) (fl fl' ws : List Nat) (tg : List Expr) (m : GMs) : Prop := PGs X tg (tGs X.K tp B fl fl' ws m)
theorem PG.imp {X : Cx} {e : Expr} {t u : TG} (h : PG X e t) (i : ∀ v σ H Q, u v σ H Q → t v σ H Q) : PG X e u := ⟨fun pins s σ H v u' Q I r q => h.run pins s σ H v u' Q I r (i v σ H Q q)⟩
theorem PGs.imp {X : Cx} {e : List Expr} {t u : TGs} (h : PGs X e t) (i : ∀ v σ H Q, u v σ H Q → t v σ H Q) : PGs X e u := ⟨fun pins s σ H v u' Q I r q => h.run pins s σ H v u' Q I r (i v σ H Q q)⟩
def gmName (i : Nat) : GM := fun d ρ => some (ρ.set i (some d))
def gmTup (n : Nat) (m : GMs) : GM := fun d ρ => match d with
  | .tup ds => if ds.length = n then m ds ρ else none
  | _ => none
def gmNil : GMs := fun ds ρ => match ds with
  | [] => some ρ
  | _ => none
def gmCons (m : GM) (ms : GMs) : GMs := fun ds ρ => match ds with
  | d :: ds => (m d ρ).bind fun ρ1 => ms ds ρ1
  | [] => none
theorem hid_same_of {O O' : List Addr} {H : Hp} (h : ∀ a, a ∈ O' → a ∈ O) : Same (hid O H) (hid O' H) := fun b u q => by
  obtain ⟨q1, q2⟩ := hid_some q
  exact hid_of (fun z => q1 (h b z)) q2
section
variable {X : Cx} {tp : TP} {B : Hp} {fl fl' fl1 ws ws2 : List Nat} {e a b c tg : Expr} {es rest : List Expr} {k ka kb kc : Kd} {m ma mb mc : EM} {ba bb : BM} {mr : AM} {pos : Pos}
theorem stored_set0 {K : PySem.W.Frag} {Fs : Ow} {H : Hp} {σ : L2.St} {ρ : Env} {t : Tape} (R : RelF K tp B fl Fs H σ ρ t) (i : Nat) (v : V) : Stored tp fl [i] Fs ⟨Fs.e, Fs.s.set i []⟩ σ (σ.set i (some v)) := by
  refine ⟨fun a ha => ours_set0 ha, fun h0 a ha => ?_, by simp, fun j hj => ?_⟩
  · have e : Fs.s.set i [] = Fs.s := by
      by_cases hi : i < Fs.s.length
      · have q := R.z i _ (h0 i List.mem_cons_self) (List.getElem?_eq_getElem hi)
        rw [← q, List.set_getElem_self]
      · exact List.set_eq_of_length_le (by omega)
    rw [e]; exact ha
  · rw [List.getElem?_set_ne (fun z => hj (by rw [z]; exact List.mem_cons_self))]
theorem fg_name (i : Nat) {x : Str} (hN : X.N.Nodup) (hi : X.N[i]? = some x := by rfl) (hx : Loc X.env.scope x := by first | exact Or.inl rfl | exact Or.inr rfl) (hf : X.fn x = true ∨ X.env.scope.names.lookup x = some .local := by first | exact .inl rfl | exact .inr rfl) (hfl : fl' = fl.set i 0 := by rfl) : FG X tp B fl fl' [i] (.Name x pos) (gmName i) :=
  PG.imp (pg_name hN hi hx hf) fun v σ H Q ⟨Fs, ρ, t, d, ρ', R, h, hm, q⟩ => by
    cases hm
    subst hfl
    exact q _ _ (stored_set0 R i v) (R.store0 i h)
theorem fgs_nil : FGs X tp B fl fl [] [] gmNil := PGs.imp pgs_nil fun vs σ H Q ⟨Fs, ρ, t, ds, ρ', R, h, hm, q⟩ => by
  unfold gmNil at hm
  split at hm
  · cases hm
    exact ⟨List.eq_nil_of_length_eq_zero (by rw [h.1]; rfl), q _ _ ⟨fun _ z => z, fun _ _ z => z, rfl, fun _ _ => rfl⟩ R⟩
  · cases hm
theorem fgs_cons {m : GM} {ms : GMs} (h1 : FG X tp B fl fl1 ws e m) (h2 : FGs X tp B fl1 fl' ws2 es ms) (hz : (ws.all fun i => fl[i]? == some 0) = false ∨ ∀ j ∈ ws2, fl[j]? = some 0 → fl1[j]? = some 0) (hs : (assignEach (e :: es) X.env).map (·.2) = assign e X.env :: (assignEach es X.env).map (·.2) := by rfl) : FGs X tp B fl fl' (ws ++ ws2) (e :: es) (gmCons m ms) :=
  PGs.imp (pgs_cons h1 h2 hs) fun vs σ H Q ⟨Fs, ρ, t, ds, ρ', R, h, hm, q⟩ => by
    match ds, hm with
    | [], hm => cases hm
    | d :: ds, hm =>
      match vs, h with
      | [], h => exact absurd h.1 (by simp)
      | v :: vs, h =>
        obtain ⟨ρ1, e1, e2⟩ := bind_some hm
        refine ⟨v, vs, rfl, Fs, ρ, t, d, ρ1, R, h.head, e1, fun σ1 Fs1 s1 R1 => ⟨Fs1, ρ1, t, ds, ρ', R1, h.tail.mono (hid_same_of s1.sub), e2, fun σ2 Fs2 s2 R2 => q σ2 Fs2 ?_ R2⟩⟩
        refine ⟨fun a ha => s1.sub a (s2.sub a ha), fun h0 a ha => ?_, s2.len.trans s1.len, fun j hj => ?_⟩
        · have hA : ∀ j ∈ ws, fl[j]? = some 0 := fun j hj => h0 j (List.mem_append_left _ hj)
          rcases hz with hz | hz
          · have ht : (ws.all fun i => fl[i]? == some 0) = true := List.all_eq_true.mpr fun j hj => by rw [hA j hj]; rfl
            rw [hz] at ht; cases ht
          · exact s2.sup (fun j hj => hz j hj (h0 j (List.mem_append_right _ hj))) a (s1.sup hA a ha)
        · rw [s2.out j fun z => hj (List.mem_append_right _ z), s1.out j fun z => hj (List.mem_append_left _ z)]
theorem fg_tup {ms : GMs} {n kk : Nat} (hc : X.calm = true) (h : FGs X tp B fl fl' ws es ms) (hn : (assignEach es X.env).length = n := by rfl) (hst : (assignEach es X.env).findIdx? (·.1) = none := by rfl) : FG X tp B fl fl' ws (.Tuple es kk pos) (gmTup n ms) :=
  PG.imp (pg_tup hc h hn hst) fun v σ H Q ⟨Fs, ρ, t, d, ρ', R, h, hm, q⟩ => by
    unfold gmTup at hm
    split at hm
    · rename_i ds
      split at hm
      · rename_i hl
        obtain ⟨a, xs, rfl, hs, hr⟩ := h.tupL
        exact ⟨a, xs, rfl, Same.seqT hid_sub hs, by rw [hr.1]; exact hl, Fs, ρ, t, ds, ρ', R, hr, hm, q⟩
      · cases hm
    · cases hm

/-! ### statements -/
inductive Out where
  | nx (ρ : Env) (t : Tape) | rt (d : D) (t : Tape) | bk (ρ : Env) (t : Tape) | ct (ρ : Env) (t : Tape)
abbrev SM := Env → Tape → Option Out
/-- what comes back: of level lv, or (from 1000 on) a tuple of such of level lv - 1000; fr: what is new -/
def RetV (K : PySem.W.Frag) (tp : TP) (lv : Nat) (fr : Addr → Prop) (d : D) (v : V) (H' : Hp) : Prop :=
  (lv < 1000 ∧ ∃ F : List Addr, F.Nodup ∧ (∀ a ∈ F, fr a) ∧ OwnN K tp lv (hid (F ++ tpl tp) H') H' v d F) ∨
  (1000 ≤ lv ∧ ∃ (F : List Addr) (a : Addr) (xs : List V) (ds : List D), (∀ z ∈ F, fr z) ∧ v = .ref a ∧ d = .tup ds ∧ SqT K (hid (F ++ tpl tp) H') a xs ∧ xs.length = ds.length ∧ ∀ (i : Nat) (v : V) (d : D), xs[i]? = some v → ds[i]? = some d → ∃ Fi : List Addr, (∀ z ∈ Fi, z ∈ F) ∧ OwnN K tp (lv - 1000) (hid (F ++ tpl tp) H') H' v d Fi)
theorem RetV.imp {K : PySem.W.Frag} {tp : TP} {lv : Nat} {fr fr' : Addr → Prop} {d : D} {v : V} {H' : Hp} (h : RetV K tp lv fr d v H') (i : ∀ a, fr a → fr' a) : RetV K tp lv fr' d v H' := by
  rcases h with ⟨hl, F, nd, hF, ow⟩ | ⟨hl, F, a, xs, ds, hF, r⟩
  · exact .inl ⟨hl, F, nd, fun a ha => i a (hF a ha), ow⟩
  · exact .inr ⟨hl, F, a, xs, ds, fun a ha => i a (hF a ha), r⟩
/-- what comes back, from B on -/
structure RetB (K : PySem.W.Frag) (tp : TP) (B : Hp) (lv : Nat) (d : D) (t' : Tape) (v : V) (H' : Hp) : Prop where
  tape : TapeAt tp H' t'
  base : Same B (hid (tpl tp) H')
  val : RetV K tp lv (fun a => B a = none ∧ a ∉ tpl tp) d v H'
def tS (K : PySem.W.Frag) (tp : TP) (B : Hp) (lv : Nat) (lp fl fl' : List Nat) (m : SM) : TS := fun Z σ H => ∃ Fs ρ t o, RelF K tp B fl Fs H σ ρ t ∧ m ρ t = some o ∧ match o with
  | .nx ρ' t' => ∀ σ' H' Fs', RelF K tp B fl' Fs' H' σ' ρ' t' → Z.nx σ' H'
  | .rt d t' => ∀ v H', RetB K tp B lv d t' v H' → Z.rt v H'
  | .bk ρ' t' => ∀ σ' H' Fs', RelF K tp B lp Fs' H' σ' ρ' t' → Z.bk σ' H'
  | .ct ρ' t' => ∀ σ' H' Fs', RelF K tp B lp Fs' H' σ' ρ' t' → Z.ct σ' H'
def FS (X : Cx) (tp : TP) (B : Hp) (lv : Nat) (lp fl fl' : List Nat) (st : Stmt) (m : SM) : Prop := PS X st (tS X.K tp B lv lp fl fl' m)
def FSs (X : Cx) (tp : TP) (B : Hp) (lv : Nat) (lp fl fl' : List Nat) (st : List Stmt) (m : SM) : Prop := PSs X st (tS X.K tp B lv lp fl fl' m)
def mSkip : SM := fun ρ t => some (.nx ρ t)
def mSeq (m1 m2 : SM) : SM := fun ρ t => (m1 ρ t).bind fun o => match o with
  | .nx ρ' t' => m2 ρ' t'
  | o => some o
variable {lv : Nat} {lp fl2 : List Nat} {st : Stmt} {sts sts2 : List Stmt} {sm sm1 sm2 : SM}
theorem fss_nil : FSs X tp B lv lp fl fl [] mSkip := PSs.imp pss_nil fun Z σ H ⟨Fs, ρ, t, o, R, hm, q⟩ => by
  cases hm
  exact q σ H Fs R
theorem fss_one (h : FS X tp B lv lp fl fl' st sm) : FSs X tp B lv lp fl fl' [st] sm := pss_one h
theorem fss_cons (h1 : FS X tp B lv lp fl fl1 st sm1) (h2 : FSs X tp B lv lp fl1 fl' sts sm2) : FSs X tp B lv lp fl fl' (st :: sts) (mSeq sm1 sm2) :=
  PSs.imp (pss_cons h1 h2) fun Z σ H ⟨Fs, ρ, t, o, R, hm, q⟩ => by
    obtain ⟨o1, e1, e2⟩ := bind_some hm
    cases o1 with
    | nx ρ1 t1 => exact ⟨Fs, ρ, t, _, R, e1, fun σ1 H1 Fs1 R1 => ⟨Fs1, ρ1, t1, o, R1, e2, q⟩⟩
    | rt d t1 => cases e2; exact ⟨Fs, ρ, t, _, R, e1, q⟩
    | bk ρ1 t1 => cases e2; exact ⟨Fs, ρ, t, _, R, e1, q⟩
    | ct ρ1 t1 => cases e2; exact ⟨Fs, ρ, t, _, R, e1, q⟩
theorem fs_pass : FS X tp B lv lp fl fl (.Pass pos) mSkip := PS.imp ps_pass fun Z σ H ⟨Fs, ρ, t, o, R, hm, q⟩ => by
  cases hm
  exact q σ H Fs R
def mBreak : SM := fun ρ t => some (.bk ρ t)
def mCont : SM := fun ρ t => some (.ct ρ t)
def mNever : SM := fun _ _ => none
theorem fs_break : FS X tp B lv lp lp fl' (.Break pos) mBreak := PS.imp ps_break fun Z σ H ⟨Fs, ρ, t, o, R, hm, q⟩ => by
  cases hm
  exact q σ H Fs R
theorem fs_cont : FS X tp B lv lp lp fl' (.Continue pos) mCont := PS.imp ps_continue fun Z σ H ⟨Fs, ρ, t, o, R, hm, q⟩ => by
  cases hm
  exact q σ H Fs R
theorem fs_never : FS X tp B lv lp fl fl' st mNever := PS.imp ps_never fun Z σ H ⟨Fs, ρ, t, o, R, hm, q⟩ => by cases hm
def mIf (c : BM) (m1 m2 : SM) : SM := fun ρ t => (c ρ t).bind fun p => if p.1 = true then m1 ρ p.2 else m2 ρ p.2
theorem fs_if (hc : FT X tp B fl c ba) (ha : FSs X tp B lv lp fl fl' sts sm1) (hb : FSs X tp B lv lp fl fl' sts2 sm2) : FS X tp B lv lp fl fl' (.If c sts sts2 pos) (mIf ba sm1 sm2) :=
  PS.imp (ps_if hc ha hb) fun Z σ H ⟨Fs, ρ, t, o, R, hm, q⟩ => by
    obtain ⟨⟨z, t1⟩, h1, h2⟩ := bind_some hm
    refine ⟨Fs, ρ, t, z, t1, R, h1, fun H1 s1 ta1 => ?_⟩
    cases z with
    | true =>
      simp only [if_true] at h2 ⊢
      exact ⟨Fs, ρ, t1, o, R.step s1 ta1, h2, q⟩
    | false =>
      simp only [Bool.false_eq_true, if_false] at h2 ⊢
      exact ⟨Fs, ρ, t1, o, R.step s1 ta1, h2, q⟩
/-- levels forgotten at the end -/
theorem FSs.weak (i : Nat) (h : FSs X tp B lv lp fl fl' sts sm) : FSs X tp B lv lp fl (fl'.set i 0) sts sm := PSs.imp h fun Z σ H ⟨Fs, ρ, t, o, R, hm, q⟩ => by
  refine ⟨Fs, ρ, t, o, R, hm, ?_⟩
  cases o with
  | nx ρ' t' => exact fun σ' H' Fs' R' => q σ' H' _ (R'.frz1 i)
  | rt d t' => exact q
  | bk ρ' t' => exact q
  | ct ρ' t' => exact q
/-- .. and at the start -/
theorem FSs.weak0 (i : Nat) (h : FSs X tp B lv lp (fl.set i 0) fl' sts sm) : FSs X tp B lv lp fl fl' sts sm := PSs.imp h fun Z σ H ⟨Fs, ρ, t, o, R, hm, q⟩ =>
  ⟨_, ρ, t, o, R.frz1 i, hm, q⟩
def mRet (m : EM) : SM := fun ρ t => (m ρ t).map fun p => .rt p.1 p.2
theorem mRet_some {ρ : Env} {t : Tape} {o : Out} (h : mRet m ρ t = some o) : ∃ d t', m ρ t = some (d, t') ∧ o = .rt d t' := by
  unfold mRet at h
  cases e : m ρ t with
  | none => rw [e] at h; cases h
  | some p => rw [e] at h; cases h; exact ⟨p.1, p.2, rfl, rfl⟩
theorem base_in {K : PySem.W.Frag} {Fs : Ow} {H H' : Hp} {σ : L2.St} {ρ : Env} {t : Tape} (R : RelF K tp B fl Fs H σ ρ t) (s : SameX tp H H') : Same B (hid (tpl tp) H') := fun b u q => by
  obtain ⟨q1, q2⟩ := hid_some (R.base b u q)
  exact hid_of (fun z => q1 (RelF.tsub b z)) (s b u q2 fun z => q1 (RelF.tsub b z))
theorem new_base {K : PySem.W.Frag} {Fs : Ow} {H : Hp} {σ : L2.St} {ρ : Env} {t : Tape} (R : RelF K tp B fl Fs H σ ρ t) {a : Addr} (h : H a = none) : B a = none := by
  cases e : B a with
  | none => rfl
  | some o =>
    have q := (hid_some (R.base a o e)).2
    rw [h] at q; cases q
theorem ours_base {K : PySem.W.Frag} {Fs : Ow} {H : Hp} {σ : L2.St} {ρ : Env} {t : Tape} (R : RelF K tp B fl Fs H σ ρ t) {a : Addr} (h : a ∈ ours tp Fs) : B a = none := by
  cases e : B a with
  | none => rfl
  | some o => exact absurd h (hid_some (R.base a o e)).1
theorem fs_ret (h : FE X tp B fl e (.o lv) m) (hlv : lv < 1000 := by decide) : FS X tp B lv lp fl fl' (.Return (some e) pos) (mRet m) := PS.imp (ps_ret h) fun Z σ H ⟨Fs, ρ, t, o, R, hm, q⟩ => by
  obtain ⟨d, t', h1, rfl⟩ := mRet_some hm
  refine ⟨Fs, ρ, t, d, t', R, h1, fun v H' r => q v H' ⟨r.tape, base_in R r.same, ?_⟩⟩
  obtain ⟨F, nd, hF, ow⟩ := r.val
  refine .inl ⟨hlv, F, nd, fun a ha => ⟨new_base R (hF a ha), fun z => R.ok.new (hF a ha) (RelF.tsub a z)⟩, ow.mono (hid_same_of fun a ha => ?_) fun b o _ q => q⟩
  rcases List.mem_append.mp ha with z | z
  · exact List.mem_append_left _ z
  · exact List.mem_append_right _ (RelF.tsub a z)
/-- what is ours is handed back -/
theorem fs_retW (h : FE X tp B fl e (.w lv) m) (hlv : lv < 1000 := by decide) : FS X tp B lv lp fl fl' (.Return (some e) pos) (mRet m) := PS.imp (ps_ret h) fun Z σ H ⟨Fs, ρ, t, o, R, hm, q⟩ => by
  obtain ⟨d, t', h1, rfl⟩ := mRet_some hm
  refine ⟨Fs, ρ, t, d, t', R, h1, fun v H' r => q v H' ⟨r.tape, base_in R r.same, ?_⟩⟩
  obtain ⟨F, nd, hF, ow⟩ := r.val
  refine .inl ⟨hlv, F, nd, fun a ha => ⟨ours_base R (hF a ha).1, (hF a ha).2⟩, ow.mono (hid_same_of fun a ha => ?_) fun b o _ q => q⟩
  rcases List.mem_append.mp ha with z | z
  · exact (hF a z).1
  · exact RelF.tsub a z
def mRetN : SM := fun _ t => some (.rt .non t)
/-- name = e -/
def mSet (i : Nat) (m : EM) : SM := fun ρ t => (m ρ t).map fun p => .nx (ρ.set i (some p.1)) p.2
theorem mSet_some {i : Nat} {ρ : Env} {t : Tape} {o : Out} (h : mSet i m ρ t = some o) : ∃ d t', m ρ t = some (d, t') ∧ o = .nx (ρ.set i (some d)) t' := by
  unfold mSet at h
  cases e : m ρ t with
  | none => rw [e] at h; cases h
  | some p => rw [e] at h; cases h; exact ⟨p.1, p.2, rfl, rfl⟩
theorem fs_set (i : Nat) {n : Nat} {x : Str} {pos' : Pos} (hN : X.N.Nodup) (h : FE X tp B fl e (.o n) m) (hi : X.N[i]? = some x := by rfl) (hx : Loc X.env.scope x := by first | exact Or.inl rfl | exact Or.inr rfl) (hf : X.fn x = true ∨ X.env.scope.names.lookup x = some .local := by first | exact .inl rfl | exact .inr rfl)
    (hs : swapsWith e (some (.Name x pos')) pos.line X.env = pure false := by rfl) (hfl : fl' = fl.set i n := by rfl) : FS X tp B lv lp fl fl' (.Assign [.Name x pos'] e pos) (mSet i m) :=
  PS.imp (ps_set hN hi hx h hs hf) fun Z σ H ⟨Fs, ρ, t, o, R, hm, q⟩ => by
    obtain ⟨d, t', h1, rfl⟩ := mSet_some hm
    subst hfl
    refine ⟨Fs, ρ, t, d, t', R, h1, fun v H' r => ?_⟩
    obtain ⟨F, nd, hF, ow⟩ := r.val
    refine q _ _ _ (RelF.store (F := F) (E := Fs.e) (S := Fs.s) (R.ext r.same r.tape nd hF ow.lists) i ?_)
    have eo : ours tp ⟨F ++ Fs.e, Fs.s⟩ = F ++ ours tp Fs := by unfold ours; simp only [List.append_assoc]
    rw [eo]
    exact ow
/-- target = e, frozen parts -/
def mAsg (m : EM) (g : GM) : SM := fun ρ t => (m ρ t).bind fun p => (g p.1 ρ).map fun ρ' => .nx ρ' p.2
theorem mAsg_some {g : GM} {ρ : Env} {t : Tape} {o : Out} (h : mAsg m g ρ t = some o) : ∃ d t' ρ', m ρ t = some (d, t') ∧ g d ρ = some ρ' ∧ o = .nx ρ' t' := by
  obtain ⟨⟨d, t'⟩, h1, h2⟩ := bind_some h
  simp only at h2
  cases e : g d ρ with
  | none => rw [e] at h2; cases h2
  | some z => rw [e] at h2; cases h2; exact ⟨d, t', z, h1, e, rfl⟩
theorem fs_asg {g : GM} (h : FE X tp B fl e (.o 0) m) (hg : FG X tp B fl fl' ws tg g) (hs : swapsWithSole [tg] e pos.line X.env = pure false := by rfl) (hw : swappedStores [tg] e X.env = pure none := by rfl)
    (h1 : (assignEach [tg] X.env).map (·.2) = [assign tg X.env] := by rfl) : FS X tp B lv lp fl fl' (.Assign [tg] e pos) (mAsg m g) :=
  PS.imp (ps_asg h hg hs hw h1) fun Z σ H ⟨Fs, ρ, t, o, R, hm, q⟩ => by
    obtain ⟨d, t', ρ', h1, h2, rfl⟩ := mAsg_some hm
    refine ⟨Fs, ρ, t, d, t', R, h1, fun v H' r => ?_⟩
    exact ⟨Fs, ρ, t', d, ρ', R.step r.same r.tape, r.frz R.ok, h2, fun σ' Fs' _ R' => q σ' H' Fs' R'⟩
/-- an expression whose value is dropped -/
def mDrop (m : EM) : SM := fun ρ t => (m ρ t).map fun p => .nx ρ p.2
theorem fs_expr (h : FE X tp B fl e k m) (hs : swapsWith e none pos.line X.env = pure false := by rfl) : FS X tp B lv lp fl fl (.Expr e pos) (mDrop m) := PS.imp (ps_expr h hs) fun Z σ H ⟨Fs, ρ, t, o, R, hm, q⟩ => by
  unfold mDrop at hm
  cases e : m ρ t with
  | none => rw [e] at hm; cases hm
  | some p =>
    rw [e] at hm; cases hm
    exact ⟨Fs, ρ, t, p.1, p.2, R, e, fun v H' r => q _ _ _ (R.step r.same r.tape)⟩
end
end FL
set_option maxRecDepth 100000
set_option maxHeartbeats 2000000
noncomputable section
namespace FL
open PySem PySem.Spec PyProof.Rows L2

/-! ### enumerate of a tuple -/
theorem new_enumT (l : Addr) (items : Array Value) (ob : Obj) (hc : ob.cls = .type "tuple") (n : Nat) (hd : ob.data = .seq items n) :
    Meets (Builtin.«enumerate.__new__» ⟨[.type "enumerate", .ref l], []⟩) (fun _ R s => s.heap.get? l = some ob ∧
      R (.ok (.ret (.ref (s.heap.push { cls := .type "tuple_iterator", data := .fields #[.ref l, .int 0 0] }).objs.size)))
        { s with heap := (s.heap.push { cls := .type "tuple_iterator", data := .fields #[.ref l, .int 0 0] }).push { cls := .type "enumerate", data := .fields #[.none, .bool false, .ref s.heap.objs.size, rawInt 0, .none, .none] } }) :=
  .of_wp fun prog w A R s h => by
    obtain ⟨hp, g, d, tk, os⟩ := s; obtain ⟨hl, h⟩ := h
    have hsub := sub_enumerate
    have hT : Heap.IsTuple (Shared.heap ⟨hp, g, d, tk, os⟩) l items := ⟨ob, hl, hc, n, hd⟩
    obtain ⟨oc, od, odt, os'⟩ := ob
    simp only at hc hd
    subst hc hd
    wp_walk using AutoSeq1.wpAny_loadPart' hl
    refine wpAny_stack_any fun st => wpAny_pure ?_
    split
    · rename_i c _ _ _ _ _
      cases (c == Value.type "enumerate")
      · wp_walk using AutoSeq1.wpAny_loadPart' hl, wpAny_pyIter_tuple hT; exact ⟨_, rfl, h⟩
      · wp_walk using AutoSeq1.wpAny_loadPart' hl, wpAny_pyIter_tuple hT; exact ⟨_, rfl, h⟩
    · wp_walk using AutoSeq1.wpAny_loadPart' hl, wpAny_pyIter_tuple hT; exact ⟨_, rfl, h⟩
section
variable {prog : Program} {w : World} {A : Around} {E : Value → Shared → Prop} {s : Shared}
theorem call_enumT {l : Addr} {items : Array Value} {Q : Value → Shared → Prop} (hL : s.heap.IsTuple l items)
    (h : ∀ h', IsEnum h' (s.heap.objs.size + 1) s.heap.objs.size 0 .none → h'.IsTupleIter s.heap.objs.size l 0 → h'.objs.size = s.heap.objs.size + 2 →
      (∀ b o, s.heap.get? b = some o → h'.get? b = some o) → Q (.ref (s.heap.objs.size + 1)) { s with heap := h' }) : wpAny (model prog w) A (call (.type "enumerate") [.ref l]) Q E s := by
  obtain ⟨ob, hl, hc, n, hd⟩ := hL
  refine callType_new F.called_enumerate (by decide) (F.typeCall_enumerate_1 _) (F.newCall_enumerate_1 _) (fun obj => F.args_object_init_2 obj _) F.entry_enumerate_new (new_enumT l items ob hc n hd) ⟨hl, ?_⟩
  generalize hI : ({ cls := .type "tuple_iterator", data := .fields #[.ref l, .int 0 0] } : Obj) = oI
  have hz : (s.heap.push oI).objs.size = s.heap.objs.size + 1 := Heap.size_push ..
  show _ ∧ _
  rw [hz]
  generalize hE : ({ cls := .type "enumerate", data := .fields #[.none, .bool false, .ref s.heap.objs.size, rawInt 0, .none, .none] } : Obj) = oE
  have he : ((s.heap.push oI).push oE).get? (s.heap.objs.size + 1) = some oE := by
    have q := Heap.get?_push_size (s.heap.push oI) (o := oE) (by rw [← hE]; rfl)
    rw [hz] at q; exact q
  have hi : ((s.heap.push oI).push oE).get? s.heap.objs.size = some oI := Heap.get?_push_of_some _ (Heap.get?_push_size _ (by rw [← hI]; rfl))
  refine ⟨⟨_, he, by rw [← hE]⟩, h _ ?_ ⟨oI, hi, by rw [← hI], by rw [← hI]; rfl⟩ (by rw [Heap.size_push, hz]) fun b o x => Heap.get?_push_of_some _ (Heap.get?_push_of_some _ x)⟩
  rw [← hE] at he ⊢
  exact he
end
/-- enumerate of the tuple at a, as it stands -/
def IteT (K : PySem.W.Frag) (a : Addr) : It :=
  ⟨fun i H => ∃ (xs : List V) (x : V), SqT K H a xs ∧ xs[i]? = some x, fun i H v H' => ∃ T x, v = .ref T ∧ H T = none ∧ H' = upd H T (.tup [.int (i : Nat), x]) ∧ ∀ xs, SqT K H a xs → xs[i]? = some x,
    fun i H => ∃ xs : List V, SqT K H a xs ∧ xs.length ≤ i⟩
theorem turn_enumT {P : Program} {w : World} {K : PySem.W.Frag} {elts : List Expr} {kk : Nat} {tpos : Pos} (a e it : Addr) :
    Turn P w K (.Tuple elts kk tpos) (IteT K a) [e, it] e (fun i h => (∃ old, IsEnum h e it ((i : Nat) : Int) old) ∧ h.IsTupleIter it a i ∧ e ≠ it ∧ a ≠ it ∧ e ≠ a) where
  mem := by simp
  obj := fun i h st b hb => by
    obtain ⟨⟨old, he⟩, ⟨o, ho, hc, hd⟩, _⟩ := st
    rcases List.mem_cons.mp hb with z | z
    · subst z; exact ⟨_, he, fun v q => nomatch q⟩
    · rw [List.mem_singleton.mp z]; exact ⟨o, ho, fun v q => by rw [hd] at q; cases q⟩
  keep := fun i h h' st k => let ⟨⟨old, he⟩, hi, hne⟩ := st; ⟨⟨old, k e List.mem_cons_self _ he⟩, hi.at fun o q => k it (List.mem_cons_of_mem _ List.mem_cons_self) o q, hne⟩
  item := by
    intro X hP hw hK hc i pins s σ H E I hf st hg
    subst hP hw hK
    obtain ⟨⟨old, he⟩, hit, hne, hai, hea⟩ := st
    obtain ⟨xs, x, hq, hx⟩ := hg
    obtain ⟨its, rv, p, hz⟩ := I.tuple hq
    obtain ⟨u, hu, ru⟩ := rv.get hx
    have hel : e < s.heap.objs.size := Heap.lt_size he
    have hil : it < s.heap.objs.size := by obtain ⟨_, q, _⟩ := hit; exact Heap.lt_size q
    have hlt : i < its.length := (List.getElem?_eq_some_iff.mp hu).1
    have D := Draws.tuple (prog := X.prog) (w := X.w) (A := X.A.in1) (I.ok.hd hc) it a hai its.toArray
    refine wpAny_pyNext_enum_itemD D he ⟨hit, p⟩ (by simpa using hlt) hne (by simp [hne, hea]) fun y h' tk hy ho hst' hT hsz hk => ?_
    have ey : y = u := by
      have hy' : its.toArray[i]? = some y := hy
      rw [List.getElem?_toArray, hu] at hy'
      exact (Option.some.inj hy').symm
    subst ey
    refine ⟨_, rfl, wpAny_letOwnedTupleGo_enum (s := { s with heap := h', toks := tk + 1 }) ho fun h'' he' sb => ?_⟩
    have hT2 := (sb.2 _ (Nat.ne_of_gt hel)).trans hT
    have new : ObjOk X.prog X.w (upd H s.heap.objs.size (.tup [.int (i : Nat), x])) h'' s.heap.objs.size (.tup [.int (i : Nat), x]) :=
      ⟨by show 2 ≤ sizeLine; decide, [.int i tk, y], .cons ⟨_, rfl⟩ (.cons ru .nil), ⟨_, hT2, rfl, _, rfl⟩⟩
    have I1 : Inv X pins σ (upd H s.heap.objs.size (.tup [.int (i : Nat), x])) { s with heap := h'', toks := tk + 1 } :=
      I.turnedNew (ch := [e, it]) (fun b ob hb q => (sb.2 b (fun z => hb (by simp [z]))).trans (hk b ob (fun z => hb (by simp [z])) (fun z => hb (by simp [z])) q)) hf (Nat.le_refl _) new
    refine ⟨.ref s.heap.objs.size, _, I1, rfl, ⟨_, x, rfl, I.hok.fresh (Nat.le_refl _), rfl, fun ys hy => by rw [I.tuple_inj hy hq]; exact hx⟩, ⟨⟨y, ?_⟩, hst'.1.at fun o q => (sb.2 it (Ne.symm hne)).trans q, hne, hai, hea⟩, fun b hb => ?_⟩
    · have e1 : ((i + 1 : Nat) : Int) = (i : Int) + 1 := by omega
      rw [e1]; exact he'
    · have hb' : b < s.heap.objs.size := by
        rcases List.mem_cons.mp hb with z | z
        · rw [z]; exact hel
        · rw [List.mem_singleton.mp z]; exact hil
      rw [upd_ne (Nat.ne_of_lt hb')]
      exact (hf b hb).1
  done := by
    intro X hP hw hK hc i pins s σ H E I hf st hg
    subst hP hw hK
    obtain ⟨⟨old, he⟩, hit, hne, hai, hea⟩ := st
    obtain ⟨xs, hq, hx⟩ := hg
    obtain ⟨its, rv, p, hz⟩ := I.tuple hq
    obtain ⟨f0, f1, f2, f3, f4, f5⟩ := hf it (List.mem_cons_of_mem _ List.mem_cons_self)
    have hl := rv.length
    have hne' : its.toArray[i]? = none := by simp; omega
    have hT : s.TypeIs (.ref e) "enumerate" := ⟨_, he, rfl⟩
    unfold pyNext
    refine wpAny_bind (wpAny_attempt (wpAny_callSpecial?_slot (name := Str.ofString "__next__") hT F.slot_enumerate_next
      (wpAny_call_entry F.slot_enumerate_next hT F.entry_enumerate_next ?_ (F.args_enumerate_next_1 _))))
    show wpAny _ _ (field (.ref e) 2 >>= _) _ _ _
    refine wpAny_bind (wpAny_field he rfl (x := .ref it) rfl ?_)
    refine wpAny_bind (wpAny_nextOf_tuple_end (show X.A.in1.in1.handled = none from I.ok.hd hc) hit p hne' fun h' x he' hx' => ?_)
    obtain ⟨o, ho, hc'⟩ := hx'
    refine wpAny_bind (wpAny_isInstance (T := "StopIteration") (b := true) ⟨o, ho, hc'⟩ isSubtype_stop (wpAny_pure ?_))
    exact ⟨rfl, I.turned (t' := s.toks) (fun b o hb q => he' b o hb q) f0 f1 f3 f4 f5⟩
  self := fun A i s Q E st h => let ⟨⟨_, he⟩, _⟩ := st; wpAny_pyIter_enum he h
end FL
set_option maxRecDepth 100000
set_option maxHeartbeats 2000000
noncomputable section
namespace FL
open PySem PySem.Spec PyProof.Rows L2

/-! ### what a loop walks -/
/-- J gives ds, one after another, as long as all of Z stands -/
def ItD (K : PySem.W.Frag) (tp : TP) (Z : Hp) (J : It) (ds : List D) : Prop :=
  ∃ Y, Walk J ds.length (fun H => Same Z H) Y ∧ ∀ (i : Nat) (H : Hp) (v : V) (H' : Hp) (d : D), ds[i]? = some d → Same Z H → Y i H v H' →
    (H' = H ∧ Rp K tp Z v d) ∨ ∃ (p : Addr) (xs : List V) (es : List D), H p = none ∧ v = .ref p ∧ H' = upd H p (.tup xs) ∧ d = .tup es ∧ RpL K tp Z xs es
abbrev IM := Env → Tape → Option (List D × Tape)
def tI (K : PySem.W.Frag) (tp : TP) (B : Hp) (fl : List Nat) (m : IM) : TI := fun σ H R => ∃ Fs ρ t ds t', RelF K tp B fl Fs H σ ρ t ∧ m ρ t = some (ds, t') ∧ ∀ J H1, SameX tp H H1 → TapeAt tp H1 t' → ItD K tp (hid (ours tp Fs) H1) J ds → R J H1
def FI (X : Cx) (tp : TP) (B : Hp) (fl : List Nat) (tg e : Expr) (m : IM) : Prop := PI X tg e (tI X.K tp B fl m)
theorem PI.imp {X : Cx} {tg e : Expr} {t u : TI} (h : PI X tg e t) (i : ∀ σ H R, u σ H R → t σ H R) : PI X tg e u := ⟨fun pins s σ H R I q => h.run pins s σ H R I (i σ H R q)⟩
section
variable {K : PySem.W.Frag} {tp : TP} {Z : Hp} {ds es : List D} {xs ys : List V} {a b : Addr}
theorem itd_tup (q : SqT K Z a xs) (r : RpL K tp Z xs ds) : ItD K tp Z (Itt K a) ds := by
  have e : ds.length = xs.length := r.1.symm
  refine ⟨YAt xs, by rw [e]; exact walk_tup.mono (fun H s => Same.seqT s q) fun _ _ _ _ _ _ y => y, fun i H v H' d h1 s y => .inl ⟨y.1, r.2 i v d y.2 h1⟩⟩
theorem itd_lst (q : Z a = some (.lst xs)) (r : RpL K tp Z xs ds) : ItD K tp Z (Itl K a) ds := by
  have e : ds.length = xs.length := r.1.symm
  refine ⟨YAt xs, by rw [e]; exact walk_list.mono (fun H s => .inl (.inl (s _ _ q))) fun _ _ _ _ _ _ y => y, fun i H v H' d h1 s y => .inl ⟨y.1, r.2 i v d y.2 h1⟩⟩
theorem itd_range (lo : Int) (n : Nat) : ItD K tp Z (Itr lo n) ((List.range n).map fun (i : Nat) => D.int (lo + i)) := by
  refine ⟨YFn fun i => .int (lo + i), by rw [List.length_map, List.length_range]; exact walk_range.mono (fun _ _ => trivial) fun _ _ _ _ _ _ y => y, fun i H v H' d h1 s y => .inl ⟨y.1, ?_⟩⟩
  obtain ⟨_, rfl⟩ := y
  rw [List.getElem?_map] at h1
  cases e : (List.range n)[i]? with
  | none => rw [e] at h1; cases h1
  | some j =>
    rw [e] at h1
    have : j = i := by
      obtain ⟨hi, q⟩ := List.getElem?_eq_some_iff.mp e
      rw [List.getElem_range] at q
      exact q.symm
    subst this
    cases h1
    exact .int _
theorem itd_rangeC (lo c : Int) (n : Nat) : ItD K tp Z (Itc lo c n) ((List.range n).map fun (i : Nat) => D.int (lo + (i : Int) * c)) := by
  refine ⟨YFn fun i => .int (lo + (i : Nat) * c), by rw [List.length_map, List.length_range]; exact walk_rangeC.mono (fun _ _ => trivial) fun _ _ _ _ _ _ y => y, fun i H v H' d h1 s y => .inl ⟨y.1, ?_⟩⟩
  obtain ⟨_, rfl⟩ := y
  rw [List.getElem?_map] at h1
  cases e : (List.range n)[i]? with
  | none => rw [e] at h1; cases h1
  | some j =>
    rw [e] at h1
    have : j = i := by
      obtain ⟨hi, q⟩ := List.getElem?_eq_some_iff.mp e
      rw [List.getElem_range] at q
      exact q.symm
    subst this
    cases h1
    exact .int _
def dZip : List D → List D → List D
  | x :: xs, y :: ys => .tup [x, y] :: dZip xs ys
  | _, _ => []
theorem dZip_len : ∀ (l m : List D), (dZip l m).length = min l.length m.length
  | [], _ => by simp [dZip]
  | _ :: _, [] => by simp [dZip]
  | x :: xs, y :: ys => by simp only [dZip, List.length_cons, dZip_len xs ys]; omega
theorem dZip_get : ∀ (l m : List D) (i : Nat) (d : D), (dZip l m)[i]? = some d → ∃ x y, l[i]? = some x ∧ m[i]? = some y ∧ d = .tup [x, y]
  | [], _, _, _, h => by simp [dZip] at h
  | _ :: _, [], _, _, h => by simp [dZip] at h
  | x :: xs, y :: ys, 0, d, h => by simp [dZip] at h; exact ⟨x, y, rfl, rfl, h.symm⟩
  | x :: xs, y :: ys, i + 1, d, h => by simpa using dZip_get xs ys i d (by simpa [dZip] using h)
def dEnum (n : Nat) : List D → List D
  | [] => []
  | x :: xs => .tup [.int n, x] :: dEnum (n + 1) xs
theorem dEnum_len : ∀ (l : List D) (n : Nat), (dEnum n l).length = l.length
  | [], _ => rfl
  | x :: xs, n => by simp only [dEnum, List.length_cons, dEnum_len xs]
theorem dEnum_get : ∀ (l : List D) (n i : Nat) (d : D), (dEnum n l)[i]? = some d → ∃ x, l[i]? = some x ∧ d = .tup [.int ((n + i : Nat)), x]
  | [], _, _, _, h => by simp [dEnum] at h
  | x :: xs, n, 0, d, h => by simp [dEnum] at h; exact ⟨x, rfl, h.symm⟩
  | x :: xs, n, i + 1, d, h => by
    obtain ⟨y, h1, h2⟩ := dEnum_get xs (n + 1) i d (by simpa [dEnum] using h)
    exact ⟨y, by simpa using h1, by rw [h2, show n + 1 + i = n + (i + 1) by omega]⟩
theorem itd_zip {J : It} {n : Nat} {G : Hp → Prop} (w : Walk J n G (YPair (fun i => xs[i]?) (fun i => ys[i]?))) (hG : ∀ H, Same Z H → G H) (hn : n = min xs.length ys.length) (r : RpL K tp Z xs ds) (q : RpL K tp Z ys es) : ItD K tp Z J (dZip ds es) := by
  have e : (dZip ds es).length = n := by rw [dZip_len, hn, r.1, q.1]
  refine ⟨_, by rw [e]; exact w.mono hG fun _ _ _ _ _ _ y => y, fun i H v H' d h1 s y => .inr ?_⟩
  obtain ⟨T, x, y, rfl, hT, rfl, hx, hy⟩ := y
  obtain ⟨d1, d2, e1, e2, rfl⟩ := dZip_get ds es i d h1
  exact ⟨T, [x, y], [d1, d2], hT, rfl, rfl, rfl, .cons (r.2 i x d1 hx e1) (.cons (q.2 i y d2 hy e2) .nil)⟩
theorem itd_enum {J : It} {G : Hp → Prop} (w : Walk J xs.length G (YPair (fun i => some (.int (i : Nat))) (fun i => xs[i]?))) (hG : ∀ H, Same Z H → G H) (r : RpL K tp Z xs ds) : ItD K tp Z J (dEnum 0 ds) := by
  have e : (dEnum 0 ds).length = xs.length := by rw [dEnum_len, r.1]
  refine ⟨_, by rw [e]; exact w.mono hG fun _ _ _ _ _ _ y => y, fun i H v H' d h1 s y => .inr ?_⟩
  obtain ⟨T, x, y, rfl, hT, rfl, hx, hy⟩ := y
  obtain ⟨d1, e1, rfl⟩ := dEnum_get ds 0 i d h1
  cases hx
  exact ⟨T, [.int (i : Nat), y], _, hT, rfl, rfl, rfl, .cons (by rw [Nat.zero_add]; exact .int _) (.cons (r.2 i y d1 hy e1) .nil)⟩
def strDs (x : Str) : List D := x.cps.toList.map fun c => D.str ⟨#[c]⟩
theorem itd_str (x : Str) : ItD K tp Z (Its x) (strDs x) := by
  have e : (strDs x).length = x.cps.size := by unfold strDs; simp
  refine ⟨_, by rw [e]; exact walk_str.mono (fun _ _ => trivial) fun _ _ _ _ _ _ y => y, fun i H v H' d h1 s y => .inl ?_⟩
  obtain ⟨rfl, c, hc, rfl⟩ := y
  refine ⟨rfl, ?_⟩
  unfold strDs at h1
  rw [List.getElem?_map, Array.getElem?_toList, hc] at h1
  cases h1
  exact .str _
end
/-- a tuple, a list, a text -/
def iAny (K : PySem.W.Frag) (tl : TE) : TI := fun σ H R => tl σ H fun x H1 => (∃ a xs, x = .ref a ∧ SqL K H1 a xs ∧ R (Itl K a) H1) ∨ (∃ a xs, x = .ref a ∧ SqT K H1 a xs ∧ R (Itt K a) H1) ∨ ∃ z, x = .str z ∧ R (Its z) H1
section
variable {X : Cx} {tp : TP} {B : Hp} {fl fl' fl1 : List Nat} {e e2 a b c tg : Expr} {es rest : List Expr} {k ka kb kc : Kd} {m ma mb mc : EM} {ba bb : BM} {mr : AM} {pos : Pos} {lv : Nat} {lp fl2 : List Nat} {st : Stmt} {sts sts2 : List Stmt} {sm sm1 sm2 : SM}
theorem pi_any {l : Expr} {tl : TE} (hl : PE X l tl) : PI X tg l (iAny X.K tl) := by
  constructor
  intro pins s σ H R I h
  refine thn (hl.run pins s σ H _ I h) fun v s1 ⟨x, H1, I1, r1, q1⟩ => ?_
  have fp : ∀ b ∈ [s1.heap.objs.size], FpOk X pins H1 b := fun b hb => by
    rw [List.mem_singleton.mp hb]
    exact I1.fpOk (Nat.le_refl _) (I1.hok.fresh (Nat.le_refl _))
  rcases q1 with ⟨a, xs, rfl, hq, q⟩ | ⟨a, xs, rfl, hq, q⟩ | ⟨z, rfl, q⟩
  · cases r1
    obtain ⟨its, rv, p, hz⟩ := I1.list hq
    refine wpAny_pyIter_list p.isList ⟨s1.heap.objs.size, [s1.heap.objs.size], _, _, H1, rfl, ?_, turn_list a _, ⟨_, Heap.get?_push_size _ rfl, rfl, rfl⟩, fp, q⟩
    exact I1.kept (t' := s1.toks) fun b o e => Heap.get?_push_of_some _ e
  · cases r1
    obtain ⟨its, rv, p, hz⟩ := I1.tuple hq
    refine wpAny_pyIter_tuple p ⟨s1.heap.objs.size, [s1.heap.objs.size], _, _, H1, rfl, ?_, turn_tuple a _, ⟨_, Heap.get?_push_size _ rfl, rfl, rfl⟩, fp, q⟩
    exact I1.kept (t' := s1.toks) fun b o e => Heap.get?_push_of_some _ e
  · obtain ⟨t, rfl⟩ := r1
    cases ha : z.cps.all (· < 128)
    · refine wpAny_pyIter_wide ha ⟨s1.heap.objs.size, [s1.heap.objs.size], _, _, H1, rfl, ?_, turn_str _ z t "str_iterator" (.inr rfl), ⟨_, Heap.get?_push_size _ rfl, rfl, rfl⟩, fp, q⟩
      exact I1.kept (t' := s1.toks) fun b o e => Heap.get?_push_of_some _ e
    · refine wpAny_pyIter_ascii ha ⟨s1.heap.objs.size, [s1.heap.objs.size], _, _, H1, rfl, ?_, turn_str _ z t "str_ascii_iterator" (.inl rfl), ⟨_, Heap.get?_push_size _ rfl, rfl, rfl⟩, fp, q⟩
      exact I1.kept (t' := s1.toks) fun b o e => Heap.get?_push_of_some _ e
def dItems : D → Option (List D)
  | .tup l => some l
  | .lst l => some l
  | .str x => some (strDs x)
  | _ => none
def mIt (m : EM) : IM := fun ρ t => (m ρ t).bind fun p => (dItems p.1).map fun l => (l, p.2)
theorem mIt_some {ρ : Env} {t t' : Tape} {ds : List D} (h : mIt m ρ t = some (ds, t')) : ∃ d, m ρ t = some (d, t') ∧ dItems d = some ds := by
  obtain ⟨⟨d, t1⟩, h1, h2⟩ := bind_some h
  simp only at h2
  cases e : dItems d with
  | none => rw [e] at h2; cases h2
  | some z => rw [e] at h2; cases h2; exact ⟨d, h1, e⟩
theorem fi_any (h : FE X tp B fl e (.o 0) m) : FI X tp B fl tg e (mIt m) := PI.imp (pi_any h) fun σ H R' ⟨Fs, ρ, t, ds, t', R, hm, q⟩ => by
  obtain ⟨d, h1, h2⟩ := mIt_some hm
  refine ⟨Fs, ρ, t, d, t', R, h1, fun v H1 r => ?_⟩
  have i := r.frz R.ok
  cases d with
  | tup l =>
    cases h2
    obtain ⟨a, xs, rfl, hs, hr⟩ := i.tupL
    exact .inr (.inl ⟨a, xs, rfl, Same.seqT hid_sub hs, q _ _ r.same r.tape (itd_tup hs hr)⟩)
  | lst l =>
    cases h2
    obtain ⟨a, xs, rfl, hs, hr⟩ := i.lstL
    exact .inl ⟨a, xs, rfl, .inl (.inl (hid_sub _ _ hs)), q _ _ r.same r.tape (itd_lst hs hr)⟩
  | str x =>
    cases h2
    exact .inr (.inr ⟨x, i.str_inv, q _ _ r.same r.tape (itd_str x)⟩)
  | _ => cases h2
theorem rgcD {i j : Int} (h1 : -(2 ^ 62) ≤ i ∧ i < 2 ^ 62) (h2 : -(2 ^ 62) ≤ j ∧ j < 2 ^ 62) : RgC i j (-1) (i - j).toNat := RgC.neg h1.1 h1.2 h2.1 h2.2
/-! range -/
/-- (by Classical) -/
def big (i : Int) : Bool := @decide (-(2 ^ 62) ≤ i ∧ i < 2 ^ 62) (Classical.propDecidable _)
theorem of_big {i : Int} (h : big i = true) : -(2 ^ 62) ≤ i ∧ i < 2 ^ 62 := @of_decide_eq_true _ (Classical.propDecidable _) h
def dRange1 : List D → Option (List D)
  | [.int j] => if big j then some ((List.range j.toNat).map fun (i : Nat) => D.int (0 + i)) else none
  | _ => none
def dRange2 : List D → Option (List D)
  | [.int i, .int j] => if big i && big j then some ((List.range (j - i).toNat).map fun (k : Nat) => D.int (i + k)) else none
  | _ => none
/-- range(i, j, -1) -/
def dRangeD : List D → Option (List D)
  | [.int i, .int j, .int c] => if big i && big j && (c == -1) then some ((List.range (i - j).toNat).map fun (k : Nat) => D.int (i + (k : Int) * (-1))) else none
  | _ => none
def mIter (f : List D → Option (List D)) (mr : AM) : IM := fun ρ t => (mr ρ t).bind fun p => (f p.1).map fun l => (l, p.2)
theorem mIter_some {f : List D → Option (List D)} {ρ : Env} {t t' : Tape} {ds : List D} (h : mIter f mr ρ t = some (ds, t')) : ∃ as, mr ρ t = some (as, t') ∧ f as = some ds := by
  obtain ⟨⟨d, t1⟩, h1, h2⟩ := bind_some h
  simp only at h2
  cases e : f d with
  | none => rw [e] at h2; cases h2
  | some z => rw [e] at h2; cases h2; exact ⟨d, h1, e⟩
theorem fi_range1 {p : Pos} (hg : Gl X "range") (hm : X.mg "range" = none) (ha : FA X tp B fl [a] .b mr) (hs : starEach [a] X.env = [(false, eval a X.env)] := by rfl) : FI X tp B fl tg (.Call (.Name "range" p) [a] [] pos) (mIter dRange1 mr) :=
  PI.imp (pi_range1 hg hm ha hs) fun σ H R' ⟨Fs, ρ, t, ds, t', R, hm', q⟩ => by
    obtain ⟨as, h1, h2⟩ := mIter_some hm'
    refine ⟨Fs, ρ, t, as, t', R, h1, fun vs H1 r => ?_⟩
    unfold dRange1 at h2
    split at h2
    · rename_i j
      split at h2
      · rename_i c
        cases h2
        obtain ⟨v, rfl, i⟩ := one_of r.len r.val
        have c' := of_big c
        exact ⟨j, by rw [i.all.int_inv], c'.1, c'.2, q _ _ r.same r.tape (itd_range 0 j.toNat)⟩
      · cases h2
    · cases h2
theorem fi_range2 {p : Pos} (hg : Gl X "range") (hm : X.mg "range" = none) (ha : FA X tp B fl [a, b] .b mr) (hs : starEach [a, b] X.env = [(false, eval a X.env), (false, eval b X.env)] := by rfl) (hs2 : starEach [b] X.env = [(false, eval b X.env)] := by rfl) : FI X tp B fl tg (.Call (.Name "range" p) [a, b] [] pos) (mIter dRange2 mr) :=
  PI.imp (pi_range2 hg hm ha hs hs2) fun σ H R' ⟨Fs, ρ, t, ds, t', R, hm', q⟩ => by
    obtain ⟨as, h1, h2⟩ := mIter_some hm'
    refine ⟨Fs, ρ, t, as, t', R, h1, fun vs H1 r => ?_⟩
    unfold dRange2 at h2
    split at h2
    · rename_i i j
      split at h2
      · rename_i c
        cases h2
        obtain ⟨v, w, rfl, i1, i2⟩ := two_of r.len r.val
        rw [Bool.and_eq_true] at c
        have c1 := of_big c.1
        have c2 := of_big c.2
        exact ⟨i, j, by rw [i1.all.int_inv, i2.all.int_inv], ⟨c1.1, c1.2, c2.1, c2.2⟩, q _ _ r.same r.tape (itd_range i (j - i).toNat)⟩
      · cases h2
    · cases h2
theorem three_of {vs : List V} {d e f : D} {K : PySem.W.Frag} {O : List Addr} {H : Hp} {ka : Kd} (l : vs.length = [d, e, f].length) (r : ∀ (i : Nat) (v : V) (g : D), vs[i]? = some v → [d, e, f][i]? = some g → In K tp O H ka v g) : ∃ v w u, vs = [v, w, u] ∧ In K tp O H ka v d ∧ In K tp O H ka w e ∧ In K tp O H ka u f := by
  match vs, l with
  | [v, w, u], _ => exact ⟨v, w, u, rfl, r 0 v d rfl rfl, r 1 w e rfl rfl, r 2 u f rfl rfl⟩
theorem fi_rangeD {p : Pos} (hg : Gl X "range") (hm : X.mg "range" = none) (ha : FA X tp B fl [a, b, c] .b mr) (hs : starEach [a, b, c] X.env = (false, eval a X.env) :: starEach [b, c] X.env := by rfl) (hpl : (backTo pos (starEach [b, c] X.env)).any (·.1) = false := by rfl) : FI X tp B fl tg (.Call (.Name "range" p) [a, b, c] [] pos) (mIter dRangeD mr) :=
  PI.imp (pi_range3 hg hm ha hs hpl) fun σ H R' ⟨Fs, ρ, t, ds, t', R, hm', q⟩ => by
    obtain ⟨as, h1, h2⟩ := mIter_some hm'
    refine ⟨Fs, ρ, t, as, t', R, h1, fun vs H1 r => ?_⟩
    unfold dRangeD at h2
    split at h2
    · rename_i i j c
      split at h2
      · rename_i cc
        cases h2
        obtain ⟨v, w, u, rfl, i1, i2, i3⟩ := three_of r.len r.val
        rw [Bool.and_eq_true, Bool.and_eq_true] at cc
        have c1 := of_big cc.1.1
        have c2 := of_big cc.1.2
        have c3 : c = -1 := by simpa using cc.2
        subst c3
        exact ⟨i, j, -1, (i - j).toNat, by rw [i1.all.int_inv, i2.all.int_inv, i3.all.int_inv], rgcD c1 c2, q _ _ r.same r.tape (itd_rangeC i (-1) (i - j).toNat)⟩
      · cases h2
    · cases h2
/-! zip, enumerate -/
def dItems2 : D → Option (Bool × List D)
  | .tup l => some (true, l)
  | .lst l => some (false, l)
  | _ => none
def dZipA : List D → Option (List D)
  | [.tup l, .tup m] => some (dZip l m)
  | [.lst l, .lst m] => some (dZip l m)
  | _ => none
theorem walk_zipT {K : PySem.W.Frag} {a b : Addr} {xs ys : List V} : Walk (RZ.ItzT K a b) (min xs.length ys.length) (fun H => SqT K H a xs ∧ SqT K H b ys) (YPair (fun i => xs[i]?) (fun i => ys[i]?)) := by
  refine ⟨fun i H hi q => ?_, fun H q => ⟨xs, ys, q.1, q.2, by omega⟩, fun i H v H' _ q y => ?_⟩
  · exact ⟨xs, ys, xs[i]'(by omega), ys[i]'(by omega), q.1, q.2, List.getElem?_eq_getElem _, List.getElem?_eq_getElem _⟩
  · obtain ⟨T, x, z, e1, e2, e3, e4, e5⟩ := y
    exact ⟨T, x, z, e1, e2, e3, e4 xs q.1, e5 ys q.2⟩
theorem fi_zip {elts : List Expr} {kk : Nat} {tpos p : Pos} (hg : Gl X "zip") (hm : X.mg "zip" = none) (ha : FA X tp B fl [e, e2] (.o 0) mr)
    (hs : starEach [e, e2] X.env = (false, eval e X.env) :: starEach [e2] X.env := by rfl) (hpl : (backTo pos (starEach [e2] X.env)).any (·.1) = false := by rfl) : FI X tp B fl (.Tuple elts kk tpos) (.Call (.Name "zip" p) [e, e2] [] pos) (mIter dZipA mr) :=
  PI.imp (RZ.pi_zipA hg hm ha hs hpl) fun σ H R' ⟨Fs, ρ, t, ds, t', R, hm', q⟩ => by
    obtain ⟨as, h1, h2⟩ := mIter_some hm'
    refine ⟨Fs, ρ, t, as, t', R, h1, fun vs H1 r => ?_⟩
    unfold dZipA at h2
    split at h2
    · rename_i l m'
      cases h2
      obtain ⟨v, w, rfl, i1, i2⟩ := two_of r.len r.val
      obtain ⟨a1, xs, rfl, hs1, hr1⟩ := Rp.tupL (show Rp X.K tp (hid (ours tp Fs) H1) v (.tup l) from i1)
      obtain ⟨a2, ys, rfl, hs2, hr2⟩ := Rp.tupL (show Rp X.K tp (hid (ours tp Fs) H1) w (.tup m') from i2)
      exact ⟨a1, a2, xs, ys, rfl, .inr ⟨Same.seqT hid_sub hs1, Same.seqT hid_sub hs2, q _ _ r.same r.tape (itd_zip walk_zipT (fun H s => ⟨Same.seqT s hs1, Same.seqT s hs2⟩) rfl hr1 hr2)⟩⟩
    · rename_i l m'
      cases h2
      obtain ⟨v, w, rfl, i1, i2⟩ := two_of r.len r.val
      obtain ⟨a1, xs, rfl, hs1, hr1⟩ := Rp.lstL (show Rp X.K tp (hid (ours tp Fs) H1) v (.lst l) from i1)
      obtain ⟨a2, ys, rfl, hs2, hr2⟩ := Rp.lstL (show Rp X.K tp (hid (ours tp Fs) H1) w (.lst m') from i2)
      exact ⟨a1, a2, xs, ys, rfl, .inl ⟨.inl (.inl (hid_sub _ _ hs1)), .inl (.inl (hid_sub _ _ hs2)), q _ _ r.same r.tape (itd_zip (walk_zip rfl) (fun H s => ⟨.inl (.inl (s _ _ hs1)), .inl (.inl (s _ _ hs2))⟩) rfl hr1 hr2)⟩⟩
    · cases h2
def iEnumT (K : PySem.W.Frag) (ta : TA) : TI := fun σ H R => ta σ H fun vs H1 => ∃ a xs, vs = [.ref a] ∧ SqT K H1 a xs ∧ R (IteT K a) H1
theorem PI.or {tg e : Expr} {t u : TI} (h : PI X tg e t) (h' : PI X tg e u) : PI X tg e (fun σ H R => t σ H R ∨ u σ H R) :=
  ⟨fun pins s σ H R I q => q.elim (fun z => h.run pins s σ H R I z) fun z => h'.run pins s σ H R I z⟩
theorem enum_fp {pins : List (Addr × Obj)} {σ : L2.St} {H H1 : Hp} {s : Shared} (I : Inv X pins σ H s) (n : Nat) (hn : s.heap.objs.size = n) : ∀ b ∈ [n + 1, n], FpOk X pins H b := fun b hb => by
  have hle : s.heap.objs.size ≤ b := by
    rcases List.mem_cons.mp hb with z | z
    · rw [hn, z]; exact Nat.le_succ n
    · rw [hn, List.mem_singleton.mp z]; exact Nat.le_refl n
  exact I.fpOk hle (I.hok.fresh hle)
theorem pi_enumT {ta : TA} {p tpos : Pos} {elts : List Expr} {kk : Nat} (hg : Gl X "enumerate") (hm : X.mg "enumerate" = none) (ha : PA X [e] ta) (hs : starEach [e] X.env = [(false, eval e X.env)] := by rfl) : PI X (.Tuple elts kk tpos) (.Call (.Name "enumerate" p) [e] [] pos) (iEnumT X.K ta) := by
  constructor
  intro pins s σ H R I h
  refine Call_ (ld_blt I hg hm boot_enumerate (PyProof.Rows.callWith_type1 (thn (ha.run pos pins s σ H _ I h) fun us s1 ⟨vs, H1, I1, r1, q1⟩ => ?_) hs rfl))
  obtain ⟨a, xs, rfl, hq, q⟩ := q1
  cases r1 with
  | cons r rr =>
    cases rr; cases r
    obtain ⟨its, rv, p', hz⟩ := I1.tuple hq
    have hal : a < s1.heap.objs.size := by obtain ⟨o, ho, _⟩ := p'; exact Heap.lt_size ho
    refine call_enumT (items := its.toArray) p' ?_
    intro h' he hit hsz hk
    refine wpAny_pyIter_enum he ?_
    have I2 : Inv X pins σ H1 { s1 with heap := h' } := I1.kept (t' := s1.toks) hk
    have two := enum_fp (H1 := H1) I1 s1.heap.objs.size rfl
    generalize s1.heap.objs.size = N at he hit two hal
    exact ⟨N + 1, [N + 1, N], _, _, H1, rfl, I2, turn_enumT a (N + 1) N, ⟨⟨.none, he⟩, hit, Nat.succ_ne_self _, Nat.ne_of_lt hal, Nat.ne_of_gt (Nat.lt_succ_of_lt hal)⟩, two, q⟩
theorem walk_enumT {K : PySem.W.Frag} {a : Addr} {xs : List V} : Walk (IteT K a) xs.length (fun H => SqT K H a xs) (YPair (fun i => some (.int (i : Nat))) (fun i => xs[i]?)) := by
  refine ⟨fun i H hi q => ⟨xs, xs[i], q, List.getElem?_eq_getElem hi⟩, fun H q => ⟨xs, q, Nat.le_refl _⟩, fun i H v H' _ q y => ?_⟩
  obtain ⟨T, x, e1, e2, e3, e4⟩ := y
  exact ⟨T, .int (i : Nat), x, e1, e2, e3, rfl, e4 xs q⟩
def dEnumA : List D → Option (List D)
  | [.tup l] => some (dEnum 0 l)
  | [.lst l] => some (dEnum 0 l)
  | _ => none
theorem fi_enum {elts : List Expr} {kk : Nat} {tpos p : Pos} (hg : Gl X "enumerate") (hm : X.mg "enumerate" = none) (ha : FA X tp B fl [e] (.o 0) mr) (hs : starEach [e] X.env = [(false, eval e X.env)] := by rfl) : FI X tp B fl (.Tuple elts kk tpos) (.Call (.Name "enumerate" p) [e] [] pos) (mIter dEnumA mr) :=
  PI.imp (PI.or (pi_enum hg hm ha hs) (pi_enumT hg hm ha hs)) fun σ H R' ⟨Fs, ρ, t, ds, t', R, hm', q⟩ => by
    obtain ⟨as, h1, h2⟩ := mIter_some hm'
    unfold dEnumA at h2
    split at h2
    · rename_i l
      cases h2
      refine .inr ⟨Fs, ρ, t, _, t', R, h1, fun vs H1 r => ?_⟩
      obtain ⟨v, rfl, i1⟩ := one_of r.len r.val
      obtain ⟨a1, xs, rfl, hs1, hr1⟩ := Rp.tupL (show Rp X.K tp (hid (ours tp Fs) H1) v (.tup l) from i1)
      exact ⟨a1, xs, rfl, Same.seqT hid_sub hs1, q _ _ r.same r.tape (itd_enum walk_enumT (fun H s => Same.seqT s hs1) hr1)⟩
    · rename_i l
      cases h2
      refine .inl ⟨Fs, ρ, t, _, t', R, h1, fun vs H1 r => ?_⟩
      obtain ⟨v, rfl, i1⟩ := one_of r.len r.val
      obtain ⟨a1, xs, rfl, hs1, hr1⟩ := Rp.lstL (show Rp X.K tp (hid (ours tp Fs) H1) v (.lst l) from i1)
      exact ⟨a1, xs, rfl, .inl (.inl (hid_sub _ _ hs1)), q _ _ r.same r.tape (itd_enum walk_enum (fun H s => .inl (.inl (s _ _ hs1))) hr1)⟩
    · cases h2
end
end FL
set_option maxRecDepth 100000
set_option maxHeartbeats 2000000
noncomputable section
namespace FL
open PySem PySem.Spec PyProof.Rows L2

/-- another base below -/
theorem RelF.rebase {K : PySem.W.Frag} {tp : TP} {B Z H : Hp} {fl : List Nat} {Fs : Ow} {σ : L2.St} {ρ : Env} {t : Tape} (r : RelF K tp Z fl Fs H σ ρ t) (s : Same B Z) : RelF K tp B fl Fs H σ ρ t :=
  ⟨r.l1, r.l2, r.l3, r.nd, r.tape, fun b u q => r.base b u (s b u q), r.lists, r.z, r.slot⟩
theorem RelF.upbase {K : PySem.W.Frag} {tp : TP} {B H : Hp} {fl : List Nat} {Fs : Ow} {σ : L2.St} {ρ : Env} {t : Tape} (r : RelF K tp B fl Fs H σ ρ t) : RelF K tp (hid (ours tp Fs) H) fl Fs H σ ρ t :=
  ⟨r.l1, r.l2, r.l3, r.nd, r.tape, Same.refl _, r.lists, r.z, r.slot⟩
theorem RetB.rebase {K : PySem.W.Frag} {tp : TP} {B Z H : Hp} {lv : Nat} {d : D} {t : Tape} {v : V} (r : RetB K tp Z lv d t v H) (s : Same B Z) : RetB K tp B lv d t v H := by
  refine ⟨r.tape, fun b u q => r.base b u (s b u q), r.val.imp fun a ha => ⟨?_, ha.2⟩⟩
  cases e : B a with
  | none => rfl
  | some o => have q := s a o e; rw [ha.1] at q; cases q
/-- what stands in the base stands now -/
theorem RelF.now {K : PySem.W.Frag} {tp : TP} {B H : Hp} {fl : List Nat} {Fs : Ow} {σ : L2.St} {ρ : Env} {t : Tape} (r : RelF K tp B fl Fs H σ ρ t) : Same B H := fun b u q => (hid_some (r.base b u q)).2
/-- the item of a turn, with the state behind it -/
theorem item_of {K : PySem.W.Frag} {tp : TP} {B Z H H' : Hp} {fl : List Nat} {Fs : Ow} {σ : L2.St} {ρ : Env} {t : Tape} {v : V} {d : D} (r : RelF K tp B fl Fs H σ ρ t) (sz : Same Z (hid (ours tp Fs) H))
    (h : (H' = H ∧ Rp K tp Z v d) ∨ ∃ (p : Addr) (xs : List V) (es : List D), H p = none ∧ v = .ref p ∧ H' = upd H p (.tup xs) ∧ d = .tup es ∧ RpL K tp Z xs es) :
    SameX tp H H' ∧ TapeAt tp H' t ∧ Rp K tp (hid (ours tp Fs) H') v d := by
  rcases h with ⟨rfl, h⟩ | ⟨p, xs, es, hp, rfl, rfl, rfl, hr⟩
  · exact ⟨.refl, r.tape, h.mono sz⟩
  · exact ⟨.new hp, r.tape.new hp, .tupM (.inl (.inl (hid_of (r.ok.new hp) upd_same))) ((hr.mono sz).mono (hid_new r.ok hp))⟩

/-! ### for -/
def forL (g : GM) (sm : SM) : List D → Env → Tape → Option Out
  | [], ρ, t => some (.nx ρ t)
  | d :: ds, ρ, t => (g d ρ).bind fun ρ1 => (sm ρ1 t).bind fun o => match o with
    | .nx ρ' t' => forL g sm ds ρ' t'
    | .ct ρ' t' => forL g sm ds ρ' t'
    | .bk ρ' t' => some (.nx ρ' t')
    | .rt d t' => some (.rt d t')
def mFor (mi : IM) (g : GM) (sm : SM) : SM := fun ρ t => (mi ρ t).bind fun p => forL g sm p.1 ρ p.2
section
variable {X : Cx} {tp : TP} {B : Hp} {fl fl' fl1 ws vs : List Nat} {e e2 a b c tg iter elt : Expr} {es rest ifs : List Expr} {k ka kb kc : Kd} {m ma mb mc me : EM} {ba bb : BM} {mr : AM} {mi : IM} {g : GM} {pos : Pos} {lv n : Nat} {lp fl2 : List Nat} {st : Stmt} {sts sts2 : List Stmt} {sm sm1 sm2 : SM}
theorem PSs.ex {α : Type} {t : α → TS} (h : ∀ z, PSs X sts (t z)) : PSs X sts (fun Z σ H => ∃ z, t z Z σ H) := ⟨fun pins s σ H Z I ⟨z, q⟩ => (h z).run pins s σ H Z I q⟩
theorem PG.ex {α : Type} {t : α → TG} (h : ∀ z, PG X tg (t z)) : PG X tg (fun v σ H Q => ∃ z, t z v σ H Q) := ⟨fun pins s σ H v u Q I r ⟨z, q⟩ => (h z).run pins s σ H v u Q I r q⟩
theorem fs_for (hp : PassesOwn (model X.prog X.w) X.A X.env X.xe) (hc : X.calm = true) (hi : FI X tp B fl tg iter mi) (hg : ∀ Z, FG X tp Z fl fl1 ws tg g) (hb : ∀ Z, FSs X tp Z lv fl fl1 fl sts sm)
    (hs : ∀ x, foldedSetIterable iter X.env x = pure x := by intro _; rfl) : FS X tp B lv lp fl fl (.For tg iter sts [] pos) (mFor mi g sm) :=
  PS.imp (ps_for hp hc hi (PG.ex hg) (PSs.ex hb) hs) fun D σ H ⟨Fs, ρ, t, o, R, hm, q⟩ => by
    obtain ⟨⟨ds, t1⟩, h1, h2⟩ := bind_some hm
    simp only at h2
    refine ⟨Fs, ρ, t, ds, t1, R, h1, ?_⟩
    intro J H1 s1 ta1 it
    obtain ⟨Y, wk, sp⟩ := it
    have R1 := R.step s1 ta1
    generalize hZ : hid (ours tp Fs) H1 = Z at wk sp
    have sBZ : Same B Z := by rw [← hZ]; exact R1.base
    have RZ1 : RelF X.K tp Z fl Fs H1 σ ρ t1 := by rw [← hZ]; exact R1.upbase
    -- what the statement's end asks, from a state over Z
    have fin : match o with
        | .nx ρ' t' => ∀ σ' H' Fs', RelF X.K tp Z fl Fs' H' σ' ρ' t' → D.nx σ' H'
        | .rt d t' => ∀ v H', RetB X.K tp Z lv d t' v H' → D.rt v H'
        | .bk ρ' t' => True
        | .ct ρ' t' => True := by
      cases o with
      | nx ρ' t' => exact fun σ' H' Fs' r => q σ' H' Fs' (r.rebase sBZ)
      | rt d t' => exact fun v H' r => q v H' (r.rebase sBZ)
      | bk ρ' t' => trivial
      | ct ρ' t' => trivial
    refine ⟨fun i m σ H => m = ds.length - i ∧ i ≤ ds.length ∧ ∃ Fs ρ t, RelF X.K tp Z fl Fs H σ ρ t ∧ forL g sm (ds.drop i) ρ t = some o, ⟨ds.length, rfl, Nat.zero_le _, Fs, ρ, t1, RZ1, h2⟩, ?_⟩
    rintro i m σ2 H2 ⟨rfl, hi2, Gs, ρ2, t2, R2, h3⟩
    have hG := R2.now
    by_cases hlt : i < ds.length
    · refine .inr ⟨wk.goes i H2 hlt hG, fun σ' H' => ∃ Fs ρ t, RelF X.K tp Z fl Fs H' σ' ρ t ∧ forL g sm (ds.drop (i + 1)) ρ t = some o, fun σ' H' ⟨Fs', ρ', t', r', e'⟩ => ⟨ds.length - (i + 1), by omega, rfl, hlt, Fs', ρ', t', r', e'⟩, fun x H' y => ?_⟩
      have hd : ds[i]? = some ds[i] := List.getElem?_eq_getElem hlt
      obtain ⟨sx, tx, rx⟩ := item_of R2 R2.base (sp i H2 x H' ds[i] hd hG (wk.yields i H2 x H' hlt hG y))
      rw [List.drop_eq_getElem_cons hlt] at h3
      obtain ⟨ρ3, e1, e2⟩ := bind_some h3
      obtain ⟨o3, e3, e4⟩ := bind_some e2
      refine ⟨Z, Gs, ρ2, t2, ds[i], ρ3, R2.step sx tx, rx, e1, fun σ4 Gs4 _ R4 => ⟨Z, Gs4, ρ3, t2, o3, R4, e3, ?_⟩⟩
      cases o3 with
      | nx ρ5 t5 => exact fun σ5 H5 Gs5 R5 => ⟨Gs5, ρ5, t5, R5, e4⟩
      | ct ρ5 t5 => exact fun σ5 H5 Gs5 R5 => ⟨Gs5, ρ5, t5, R5, e4⟩
      | bk ρ5 t5 => cases e4; exact fun σ5 H5 Gs5 R5 => fin σ5 H5 Gs5 R5
      | rt d5 t5 => cases e4; exact fun v5 H5 R5 => fin v5 H5 R5
    · have e : i = ds.length := by omega
      subst e
      rw [List.drop_length] at h3
      cases h3
      exact .inl ⟨wk.stops H2 hG, fin σ2 H2 Gs R2⟩

/-! ### while, by a number of turns -/
def whileN (c : BM) (sm : SM) : Nat → Env → Tape → Option Out
  | 0, _, _ => none
  | n + 1, ρ, t => (c ρ t).bind fun p => if p.1 = true then (sm ρ p.2).bind fun o => match o with
      | .nx ρ' t' => whileN c sm n ρ' t'
      | .ct ρ' t' => whileN c sm n ρ' t'
      | .bk ρ' t' => some (.nx ρ' t')
      | .rt d t' => some (.rt d t')
    else some (.nx ρ p.2)
def mWhile (fu : Env → Tape → Nat) (c : BM) (sm : SM) : SM := fun ρ t => whileN c sm (fu ρ t) ρ t
theorem fs_while (fu : Env → Tape → Nat) (hp : PassesOwn (model X.prog X.w) X.A X.env X.xe) (hc : FT X tp B fl c ba) (hb : FSs X tp B lv fl fl fl sts sm) : FS X tp B lv lp fl fl (.While c sts [] pos) (mWhile fu ba sm) :=
  PS.imp (ps_while hp hc hb) fun D σ H ⟨Fs, ρ, t, o, R, hm, q⟩ => by
    have fin : match o with
        | .nx ρ' t' => ∀ σ' H' Fs', RelF X.K tp B fl Fs' H' σ' ρ' t' → D.nx σ' H'
        | .rt d t' => ∀ v H', RetB X.K tp B lv d t' v H' → D.rt v H'
        | .bk ρ' t' => True
        | .ct ρ' t' => True := by
      cases o with
      | nx ρ' t' => exact q
      | rt d t' => exact q
      | bk ρ' t' => trivial
      | ct ρ' t' => trivial
    refine ⟨fun n σ H => ∃ Fs ρ t, RelF X.K tp B fl Fs H σ ρ t ∧ whileN ba sm n ρ t = some o, ⟨fu ρ t, Fs, ρ, t, R, hm⟩, ?_⟩
    rintro n σ2 H2 ⟨Gs, ρ2, t2, R2, h3⟩
    cases n with
    | zero => cases h3
    | succ n =>
      obtain ⟨⟨z, t3⟩, h1, h2⟩ := bind_some h3
      simp only at h2
      refine ⟨Gs, ρ2, t2, z, t3, R2, h1, fun H3 s3 ta3 => ?_⟩
      cases z with
      | true =>
        simp only [if_true] at h2 ⊢
        obtain ⟨o3, e3, e4⟩ := bind_some h2
        refine ⟨fun σ H => ∃ Fs ρ t, RelF X.K tp B fl Fs H σ ρ t ∧ whileN ba sm n ρ t = some o, fun σ' H' w => ⟨n, Nat.lt_succ_self n, w⟩, Gs, ρ2, t3, o3, R2.step s3 ta3, e3, ?_⟩
        cases o3 with
        | nx ρ5 t5 => exact fun σ5 H5 Gs5 R5 => ⟨Gs5, ρ5, t5, R5, e4⟩
        | ct ρ5 t5 => exact fun σ5 H5 Gs5 R5 => ⟨Gs5, ρ5, t5, R5, e4⟩
        | bk ρ5 t5 => cases e4; exact fun σ5 H5 Gs5 R5 => fin σ5 H5 Gs5 R5
        | rt d5 t5 => cases e4; exact fun v5 H5 R5 => fin v5 H5 R5
      | false =>
        simp only [Bool.false_eq_true, if_false] at h2 ⊢
        cases h2
        exact fin σ2 H3 Gs (R2.step s3 ta3)

/-! ### comprehensions -/
def FTs (X : Cx) (tp : TP) (B : Hp) (fl : List Nat) (ifs : List Expr) (m : BM) : Prop := PTs X ifs (tT X.K tp B fl m)
theorem PTs.imp {t u : TT} (h : PTs X ifs t) (i : ∀ σ H Q, u σ H Q → t σ H Q) : PTs X ifs u := ⟨fun pins s σ H Q I q => h.run pins s σ H Q I (i σ H Q q)⟩
def mYes : BM := fun _ t => some (true, t)
theorem fts_nil : FTs X tp B fl [] mYes := PTs.imp pts_nil fun σ H Q ⟨Fs, ρ, t, b, t', R, hm, q⟩ => by cases hm; exact q H .refl R.tape
theorem fts_one (h : FT X tp B fl c ba) : FTs X tp B fl [c] ba := pts_one h
def wipeE (ρ : Env) : List Nat → Env
  | [] => ρ
  | v :: vs => (wipeE ρ vs).set v none
def lcL (g : GM) (c : BM) (e : EM) (ρ : Env) : List D → Tape → Option (List D × Tape)
  | [], t => some ([], t)
  | d :: ds, t => (g d ρ).bind fun ρ1 => (c ρ1 t).bind fun p => if p.1 = true then (e ρ1 p.2).bind fun q => (lcL g c e ρ ds q.2).map fun r => (q.1 :: r.1, r.2) else lcL g c e ρ ds p.2
def mLc (mi : IM) (g : GM) (c : BM) (e : EM) (vs : List Nat) : EM := fun ρ t => (mi ρ t).bind fun p => (lcL g c e (wipeE ρ vs) p.1 p.2).bind fun q => if small q.1 then some (.lst q.1, q.2) else none
theorem wipeE_length (ρ : Env) : ∀ vs : List Nat, (wipeE ρ vs).length = ρ.length
  | [] => rfl
  | v :: vs => by simp only [wipeE, List.length_set, wipeE_length ρ vs]
theorem wipe_get (σ : L2.St) : ∀ (vs : List Nat) (i : Nat), i ∉ vs → (wipe σ vs)[i]? = σ[i]?
  | [], _, _ => rfl
  | v :: vs, i, h => by
    show ((wipe σ vs).set v none)[i]? = _
    rw [List.getElem?_set_ne (fun z => h (by rw [z]; exact List.mem_cons_self)), wipe_get σ vs i fun z => h (List.mem_cons_of_mem _ z)]
theorem wipeE_get (ρ : Env) : ∀ (vs : List Nat) (i : Nat) (d : D), (wipeE ρ vs)[i]? = some (some d) → i ∉ vs ∧ ρ[i]? = some (some d)
  | [], _, _, h => ⟨List.not_mem_nil, h⟩
  | v :: vs, i, d, h => by
    have h' : ((wipeE ρ vs).set v none)[i]? = some (some d) := h
    by_cases e : v = i
    · subst e
      by_cases hl : v < (wipeE ρ vs).length
      · rw [List.getElem?_set_self hl] at h'; cases h'
      · rw [List.getElem?_eq_none (by simpa using hl)] at h'; cases h'
    · rw [List.getElem?_set_ne e] at h'
      obtain ⟨h1, h2⟩ := wipeE_get ρ vs i d h'
      exact ⟨fun z => (List.mem_cons.mp z).elim (fun q => e q.symm) h1, h2⟩
theorem RelF.wipe {K : PySem.W.Frag} {Fs : Ow} {H : Hp} {σ : L2.St} {ρ : Env} {t : Tape} (r : RelF K tp B fl Fs H σ ρ t) (vs : List Nat) : RelF K tp B fl Fs H (L2.wipe σ vs) (wipeE ρ vs) t := by
  refine ⟨by rw [wipe_length]; exact r.l1, by rw [wipe_length, wipeE_length]; exact r.l2, by rw [wipe_length]; exact r.l3, r.nd, r.tape, r.base, r.lists, r.z, fun i n d F h1 h2 h3 => ?_⟩
  obtain ⟨hi, h2⟩ := wipeE_get ρ vs i d h2
  obtain ⟨v, e, o⟩ := r.slot i n d F h1 h2 h3
  exact ⟨v, by rw [wipe_get σ vs i hi]; exact e, o⟩
/-- what lies apart at the places of vs alone is one, wiped -/
theorem wipe_eq {σ σ' : L2.St} {vs : List Nat} (hl : σ'.length = σ.length) (h : ∀ j, j ∉ vs → σ'[j]? = σ[j]?) : L2.wipe σ' vs = L2.wipe σ vs := by
  refine List.ext_getElem? fun i => ?_
  by_cases hi : i ∈ vs
  · have z : ∀ (τ : L2.St) (us : List Nat), i ∈ us → (L2.wipe τ us)[i]? = if i < τ.length then some none else none := fun τ us => by
      induction us with
      | nil => intro h; cases h
      | cons u us ih =>
        intro h
        show ((L2.wipe τ us).set u none)[i]? = _
        by_cases e : u = i
        · subst e
          by_cases hl : u < τ.length
          · rw [List.getElem?_set_self (by rw [wipe_length]; exact hl), if_pos hl]
          · rw [List.getElem?_eq_none (by rw [List.length_set, wipe_length]; omega), if_neg hl]
        · rw [List.getElem?_set_ne e]
          exact ih ((List.mem_cons.mp h).elim (fun q => absurd q.symm e) fun q => q)
    rw [z σ' vs hi, z σ vs hi, hl]
  · rw [wipe_get σ' vs i hi, wipe_get σ vs i hi, h i hi]
theorem wipe_idem (σ : L2.St) (vs : List Nat) : L2.wipe (L2.wipe σ vs) vs = L2.wipe σ vs := wipe_eq (wipe_length σ vs) fun j hj => wipe_get σ vs j hj
end
end FL
set_option maxRecDepth 100000
set_option maxHeartbeats 2000000
noncomputable section
namespace FL
open PySem PySem.Spec PyProof.Rows L2

theorem ours_ext {tp : TP} (E : List Addr) (Fs : Ow) : ours tp ⟨E ++ Fs.e, Fs.s⟩ = E ++ ours tp Fs := by unfold ours; simp only [List.append_assoc]
theorem hid_upd {O : List Addr} {H : Hp} {a : Addr} {o : HO} (h : a ∈ O) : hid O (upd H a o) = hid O H := by
  funext b
  unfold hid
  split
  · rfl
  · rename_i q
    exact upd_ne fun z => q (by rw [z]; exact h)
theorem TapeAt.upd {tp : TP} {H : Hp} {t : Tape} {a : Addr} {o : HO} (ta : TapeAt tp H t) (n : a ∉ tpl tp) : TapeAt tp (L2.upd H a o) t := fun p c e => by
  obtain ⟨h1, h2, h3⟩ := ta p c e
  subst e
  have n1 : p ≠ a := fun z => n (by rw [← z]; exact List.mem_cons_self)
  have n2 : c ≠ a := fun z => n (by rw [← z]; exact List.mem_cons_of_mem _ List.mem_cons_self)
  exact ⟨h1, by rw [upd_ne n1]; exact h2, by rw [upd_ne n2]; exact h3⟩
/-- a list of ours that stands in no slot is changed -/
theorem RelF.updE {K : PySem.W.Frag} {tp : TP} {B H : Hp} {fl : List Nat} {Fs : Ow} {σ : L2.St} {ρ : Env} {t : Tape} (r : RelF K tp B fl Fs H σ ρ t) {a : Addr} (ha : a ∈ Fs.e) (ys : List V) : RelF K tp B fl Fs (upd H a (.lst ys)) σ ρ t := by
  have hao : a ∈ ours tp Fs := List.mem_append_left _ (List.mem_append_left _ ha)
  obtain ⟨n1, n2, n3⟩ := List.nodup_append.mp r.nd
  obtain ⟨m1, m2, m3⟩ := List.nodup_append.mp n1
  have nt : a ∉ tpl tp := fun z => n3 a (List.mem_append_left _ ha) a z rfl
  refine ⟨r.l1, r.l2, r.l3, r.nd, r.tape.upd nt, by rw [hid_upd hao]; exact r.base, fun b hb => ?_, r.z, fun i n d F h1 h2 h3 => ?_⟩
  · by_cases e : b = a
    · subst e; exact ⟨ys, upd_same⟩
    · obtain ⟨xs, q⟩ := r.lists b hb
      exact ⟨xs, by rw [upd_ne e]; exact q⟩
  · obtain ⟨v, e, o⟩ := r.slot i n d F h1 h2 h3
    refine ⟨v, e, ?_⟩
    rw [hid_upd hao]
    refine o.mono (Same.refl _) fun b u hb hu => ?_
    rw [upd_ne fun z => ?_]
    · exact hu
    · subst z
      exact m3 b ha b (List.mem_flatten.mpr ⟨F, List.mem_of_getElem? h3, hb⟩) rfl
/-- how far a comprehension has come -/
structure LcW (K : PySem.W.Frag) (tp : TP) (Z : Hp) (fl : List Nat) (Fs : Ow) (σ : L2.St) (ρ : Env) (H1 : Hp) (L : Addr) (n : Nat) (H : Hp) (t : Tape) (acc : List V) (ads : List D) (Gs : List (List Addr)) (E : List Addr) : Prop where
  rel : RelF K tp Z fl ⟨E ++ Fs.e, Fs.s⟩ H σ ρ t
  mem : ∀ a, a ∈ E ↔ a ∈ L :: Gs.flatten
  nd : (L :: Gs.flatten).Nodup
  same : SameX tp H1 H
  new : ∀ a ∈ L :: Gs.flatten, H1 a = none
  at_ : H L = some (.lst acc)
  l1 : acc.length = ads.length
  l2 : Gs.length = ads.length
  its : ∀ (i : Nat) (v : V) (d : D) (G : List Addr), acc[i]? = some v → ads[i]? = some d → Gs[i]? = some G → OwnN K tp n (hid (ours tp ⟨E ++ Fs.e, Fs.s⟩) H) H v d G
section
variable {X : Cx} {tp : TP} {B : Hp} {fl fl' fl1 ws vs : List Nat} {e e2 a b c tg iter elt : Expr} {es rest ifs : List Expr} {k ka kb kc : Kd} {m ma mb mc me : EM} {ba bb : BM} {mr : AM} {mi : IM} {g : GM} {pos : Pos} {lv n : Nat} {lp fl2 : List Nat} {st : Stmt} {sts sts2 : List Stmt} {sm sm1 sm2 : SM}
/-- a state that is later -/
theorem LcW.later {K : PySem.W.Frag} {Z : Hp} {Fs : Ow} {σ : L2.St} {ρ : Env} {H1 H H' : Hp} {L : Addr} {t t' : Tape} {acc : List V} {ads : List D} {Gs : List (List Addr)} {E : List Addr} (w : LcW K tp Z fl Fs σ ρ H1 L n H t acc ads Gs E)
    (s : SameX tp H H') (ta : TapeAt tp H' t') (nt : ∀ a ∈ L :: Gs.flatten, a ∉ tpl tp) : LcW K tp Z fl Fs σ ρ H1 L n H' t' acc ads Gs E := by
  refine ⟨w.rel.step s ta, w.mem, w.nd, w.same.trans s, w.new, s _ _ w.at_ (nt L List.mem_cons_self), w.l1, w.l2, fun i v d G h1 h2 h3 => (w.its i v d G h1 h2 h3).mono (hid_step w.rel.ok s) fun b u hb hu => s b u hu (nt b ?_)⟩
  exact List.mem_cons_of_mem _ (List.mem_flatten.mpr ⟨G, List.mem_of_getElem? h3, hb⟩)
/-- the list L grows by an item of ours -/
theorem LcW.grow {K : PySem.W.Frag} {Z : Hp} {Fs : Ow} {σ : L2.St} {ρ : Env} {H1 H H' : Hp} {L : Addr} {t t' t2 : Tape} {acc : List V} {ads : List D} {Gs : List (List Addr)} {E : List Addr} (w : LcW K tp Z fl Fs σ ρ H1 L n H t acc ads Gs E)
    {v : V} {d : D} (s : SameX tp H H') (ta : TapeAt tp H' t') {F : List Addr} (nd : F.Nodup) (hF : ∀ a ∈ F, H a = none) (ow : OwnN K tp n (hid (F ++ ours tp ⟨E ++ Fs.e, Fs.s⟩) H') H' v d F) (t1 : TapeAt tp H t2) (nt : ∀ a ∈ L :: Gs.flatten, a ∉ tpl tp) :
    LcW K tp Z fl Fs σ ρ H1 L n (upd H' L (.lst (acc ++ [v]))) t' (acc ++ [v]) (ads ++ [d]) (Gs ++ [F]) (F ++ E) := by
  have ex : RelF K tp Z fl ⟨(F ++ E) ++ Fs.e, Fs.s⟩ H' σ ρ t' := by
    have q := w.rel.ext s ta nd hF ow.lists
    simp only [List.append_assoc] at q ⊢
    exact q
  have eo : ours tp ⟨(F ++ E) ++ Fs.e, Fs.s⟩ = F ++ ours tp ⟨E ++ Fs.e, Fs.s⟩ := by unfold ours; simp only [List.append_assoc]
  have hL : L ∈ E := (w.mem L).mpr List.mem_cons_self
  have hLF : L ∉ F := fun z => by have q := hF L z; rw [w.at_] at q; cases q
  have old : ∀ a ∈ L :: Gs.flatten, ∃ xs, H a = some (.lst xs) := fun a ha => w.rel.lists a (List.mem_append_left _ (List.mem_append_left _ ((w.mem a).mpr ha)))
  have flat : (Gs ++ [F]).flatten = Gs.flatten ++ F := by simp
  have hLo : L ∈ ours tp ⟨(F ++ E) ++ Fs.e, Fs.s⟩ := List.mem_append_left _ (List.mem_append_left _ (List.mem_append_left _ (List.mem_append_right _ hL)))
  have keepL : ∀ b, b ≠ L → ∀ u, H' b = some u → (upd H' L (.lst (acc ++ [v]))) b = some u := fun b nb u q => by rw [upd_ne nb]; exact q
  refine ⟨ex.updE (List.mem_append_left _ (List.mem_append_right _ hL)) _, fun a => ?_, ?_, ?_, fun a ha => ?_, upd_same, by simp [w.l1], by simp [w.l2], fun i v' d' G h1 h2 h3 => ?_⟩
  · rw [flat, List.mem_append, w.mem a]
    simp only [List.mem_cons, List.mem_append]
    constructor
    · rintro (h | h | h)
      · exact .inr (.inr h)
      · exact .inl h
      · exact .inr (.inl h)
    · rintro (h | h | h)
      · exact .inr (.inl h)
      · exact .inr (.inr h)
      · exact .inl h
  · rw [flat, ← List.cons_append]
    exact List.nodup_append.mpr ⟨w.nd, nd, fun x hx y hy e => by
      subst e
      obtain ⟨xs, q⟩ := old x hx
      rw [hF x hy] at q; cases q⟩
  · intro b u q nb
    by_cases e : b = L
    · rw [e, w.new L List.mem_cons_self] at q
      cases q
    · exact keepL b e u (s b u (w.same b u q nb) nb)
  · rw [flat, ← List.cons_append] at ha
    rcases List.mem_append.mp ha with ha | ha
    · exact w.new a ha
    · exact w.same.back w.rel.tape (hF a ha)
  · rw [hid_upd hLo, eo]
    by_cases hi : i < acc.length
    · rw [List.getElem?_append_left hi] at h1
      rw [List.getElem?_append_left (by have := w.l1; omega)] at h2
      rw [List.getElem?_append_left (by have := w.l1; have := w.l2; omega)] at h3
      have hG : ∀ b ∈ G, b ∈ Gs.flatten := fun b hb => List.mem_flatten.mpr ⟨G, List.mem_of_getElem? h3, hb⟩
      refine (w.its i v' d' G h1 h2 h3).mono (fun b u q => ?_) fun b u hb hu => ?_
      · obtain ⟨q1, q2⟩ := hid_some q
        refine hid_of (fun z => ?_) (s b u q2 fun z => q1 (RelF.tsub b z))
        rcases List.mem_append.mp z with z | z
        · rw [hF b z] at q2; cases q2
        · exact q1 z
      · refine keepL b (fun z => ?_) u (s b u hu (nt b (List.mem_cons_of_mem _ (hG b hb))))
        subst z
        exact (List.nodup_cons.mp w.nd).1 (hG b hb)
    · have hi2 : i = acc.length := by
        have := (List.getElem?_eq_some_iff.mp h1).1
        simp at this; omega
      subst hi2
      rw [List.getElem?_append_right (Nat.le_refl _), Nat.sub_self] at h1
      rw [w.l1, List.getElem?_append_right (Nat.le_refl _), Nat.sub_self] at h2
      rw [w.l1, ← w.l2, List.getElem?_append_right (Nat.le_refl _), Nat.sub_self] at h3
      cases h1; cases h2; cases h3
      exact ow.mono (Same.refl _) fun b u hb hu => keepL b (fun z => hLF (by rw [← z]; exact hb)) u hu
theorem PE.ex {α : Type} {t : α → TE} (h : ∀ z, PE X e (t z)) : PE X e (fun σ H Q => ∃ z, t z σ H Q) := ⟨fun pins s σ H Q I ⟨z, q⟩ => (h z).run pins s σ H Q I q⟩
theorem PTs.ex {α : Type} {t : α → TT} (h : ∀ z, PTs X ifs (t z)) : PTs X ifs (fun σ H Q => ∃ z, t z σ H Q) := ⟨fun pins s σ H Q I ⟨z, q⟩ => (h z).run pins s σ H Q I q⟩
/-- a comprehension's reading -/
theorem lc_of {K : PySem.W.Frag} (hz : ∀ v ∈ vs, fl[v]? = some 0) (hws : ∀ j ∈ ws, j ∈ vs) {σ : L2.St} {H : Hp} {Q : VK} (h : tE K tp B fl (.o (n + 1)) (mLc mi g ba me vs) σ H Q) :
    tLc (tI K tp B fl mi) (fun v σ H Q => ∃ Z, tG K tp Z fl fl1 ws g v σ H Q) (fun σ H Q => ∃ Z, tT K tp Z fl1 ba σ H Q) (fun σ H Q => ∃ Z, tE K tp Z fl1 (.o n) me σ H Q) vs σ H Q := by
  obtain ⟨Fs, ρ, t, d, t', R, hm, q⟩ := h
  obtain ⟨⟨ds, t1⟩, h1, h2⟩ := bind_some hm
  obtain ⟨⟨l, t3⟩, h3, h4⟩ := bind_some h2
  simp only at h3 h4
  split at h4
  case isFalse => cases h4
  rename_i hsm
  cases h4
  refine ⟨Fs, ρ, t, ds, t1, R, h1, fun J H1 s1 ta1 it L hL => ?_⟩
  obtain ⟨Y, wk, sp⟩ := it
  have R1 := R.step s1 ta1
  have hws0 : ∀ j ∈ ws, fl[j]? = some 0 := fun j hj => hz j (hws j hj)
  generalize hZ : hid (ours tp Fs) H1 = Z at wk sp
  have hZL : Z L = none := by
    cases e : Z L with
    | none => rfl
    | some u => rw [← hZ] at e; have q := (hid_some e).2; rw [hL] at q; cases q
  have RZ1 : RelF K tp Z fl Fs H1 (L2.wipe σ vs) (wipeE ρ vs) t1 := by rw [← hZ]; exact R1.upbase.wipe vs
  have ntL : ∀ (a : Addr), H1 a = none → a ∉ tpl tp := fun a ha z => by
    obtain ⟨xs, e⟩ := ta1.lists a z
    rw [ha] at e; cases e
  have W0 : LcW K tp Z fl Fs (L2.wipe σ vs) (wipeE ρ vs) H1 L n (upd H1 L (.lst [])) t1 [] [] [] [L] := by
    have ex := RZ1.ext (F := [L]) (H' := upd H1 L (.lst [])) (.new hL) (ta1.new hL) (by simp) (fun a ha => by rw [List.mem_singleton.mp ha]; exact hL) fun a ha => by rw [List.mem_singleton.mp ha]; exact ⟨_, upd_same⟩
    refine ⟨ex, fun a => by simp, by simp, .new hL, fun a ha => ?_, upd_same, rfl, rfl, fun i v d G h1 => by simp at h1⟩
    have : a = L := by simpa using ha
    rw [this]; exact hL
  refine ⟨fun i m H => m = ds.length - i ∧ i ≤ ds.length ∧ ∃ t acc ads Gs E r, LcW K tp Z fl Fs (L2.wipe σ vs) (wipeE ρ vs) H1 L n H t acc ads Gs E ∧ lcL g ba me (wipeE ρ vs) (ds.drop i) t = some (r, t') ∧ ads ++ r = l,
    ⟨ds.length, rfl, Nat.zero_le _, t1, [], [], [], [L], l, W0, h3, rfl⟩, ?_⟩
  rintro i m H2 ⟨rfl, hi2, t2, acc, ads, Gs, E, r, w, h5, h6⟩
  have hG : Same Z H2 := w.rel.now
  have nt : ∀ a ∈ L :: Gs.flatten, a ∉ tpl tp := fun a ha => ntL a (w.new a ha)
  by_cases hlt : i < ds.length
  · refine .inr ⟨wk.goes i H2 hlt hG, fun H' => ∃ t acc ads Gs E r, LcW K tp Z fl Fs (L2.wipe σ vs) (wipeE ρ vs) H1 L n H' t acc ads Gs E ∧ lcL g ba me (wipeE ρ vs) (ds.drop (i + 1)) t = some (r, t') ∧ ads ++ r = l, fun H' h => ⟨ds.length - (i + 1), by omega, rfl, hlt, h⟩, fun x H' y => ?_⟩
    have hd : ds[i]? = some ds[i] := List.getElem?_eq_getElem hlt
    obtain ⟨sx, tx, rx⟩ := item_of w.rel w.rel.base (sp i H2 x H' ds[i] hd hG (wk.yields i H2 x H' hlt hG y))
    rw [List.drop_eq_getElem_cons hlt] at h5
    obtain ⟨ρ3, e1, e2⟩ := bind_some h5
    obtain ⟨⟨bz, t4⟩, e3, e4⟩ := bind_some e2
    simp only at e4
    have w1 := w.later sx tx nt
    refine ⟨Z, _, _, t2, ds[i], ρ3, w1.rel, rx, e1, fun σ4 Gs4 st R4 => ⟨?_, Z, Gs4, ρ3, t2, bz, t4, R4, e3, fun H5 s5 ta5 => ?_⟩⟩
    · have q := wipe_eq (vs := vs) st.len fun j hj => st.out j fun z => hj (hws j z)
      rw [q, wipe_idem]
    · have w2 := w1.later s5 ta5 nt
      cases bz with
      | false =>
        simp only [Bool.false_eq_true, if_false] at e4 ⊢
        exact ⟨t4, acc, ads, Gs, E, r, w2, e4, h6⟩
      | true =>
        simp only [if_true] at e4 ⊢
        obtain ⟨⟨y1, t5⟩, e5, e6⟩ := bind_some e4
        simp only at e6
        cases e7 : lcL g ba me (wipeE ρ vs) (ds.drop (i + 1)) t5 with
        | none => rw [e7] at e6; cases e6
        | some rr =>
          rw [e7] at e6
          obtain ⟨r2, t6⟩ := rr
          cases e6
          refine ⟨Z, Gs4, ρ3, t4, y1, t5, R4.step s5 ta5, e5, fun v6 H6 r6 => ?_⟩
          obtain ⟨F, nd, hF, ow⟩ := r6.val
          have same : ∀ a, a ∈ F ++ ours tp ⟨E ++ Fs.e, Fs.s⟩ → a ∈ F ++ ours tp Gs4 := fun a ha => (List.mem_append.mp ha).elim (fun z => List.mem_append_left _ z) fun z => List.mem_append_right _ (st.sup hws0 a z)
          have same' : ∀ a, a ∈ F ++ ours tp Gs4 → a ∈ F ++ ours tp ⟨E ++ Fs.e, Fs.s⟩ := fun a ha => (List.mem_append.mp ha).elim (fun z => List.mem_append_left _ z) fun z => List.mem_append_right _ (st.sub a z)
          have ow2 : OwnN K tp n (hid (F ++ ours tp ⟨E ++ Fs.e, Fs.s⟩) H6) H6 v6 y1 F := ow.mono (hid_same_of same) fun b u _ q => q
          have g1 := w2.grow r6.same r6.tape nd hF ow2 w2.rel.tape nt
          have hs : (ads ++ y1 :: r2).length ≤ 100000 := by rw [h6]; exact of_sml hsm
          refine ⟨acc, r6.same _ _ w2.at_ (nt L List.mem_cons_self), ?_, t5, acc ++ [v6], ads ++ [y1], Gs ++ [F], F ++ E, r2, g1, e7, by rw [List.append_assoc]; exact h6⟩
          have hl := w.l1
          simp only [List.length_append, List.length_cons] at hs
          exact Nat.lt_of_lt_of_le (show acc.length < 100001 by omega) (by decide)
  · have e : i = ds.length := by omega
    subst e
    rw [List.drop_length] at h5
    cases h5
    rw [List.append_nil] at h6
    subst h6
    refine .inl ⟨wk.stops H2 hG, q _ _ ⟨s1.trans w.same, w.rel.tape, L :: Gs.flatten, w.nd, fun a ha => s1.back ta1 (w.new a ha), L, acc, ads, Gs, rfl, rfl, w.at_, w.l1, w.l2, rfl, fun i v d G h1 h2 h3 => (w.its i v d G h1 h2 h3).mono (hid_same_of fun a ha => ?_) fun b u _ q => q⟩⟩
    rw [ours_ext]
    rcases List.mem_append.mp ha with z | z
    · exact List.mem_append_left _ ((w.mem a).mpr z)
    · exact List.mem_append_right _ z
theorem fe_lc {scope : Scope} {own : List (Str × Nat)} (hc : X.calm = true) (hN : X.N.Nodup) (hi : FI X tp B fl tg iter mi) (ok : BlkOk X.N X.env.scope scope own)
    (hg : ∀ (Z : Hp) (s : Shared) (H : Hp) (C : Addr) (cl : List (Str × Addr)) (fp : List Addr), FG (X.blk s H scope (compEnvC scope cl C X.env) fp) tp Z fl fl1 ws tg g)
    (ht : ∀ (Z : Hp) (s : Shared) (H : Hp) (C : Addr) (cl : List (Str × Addr)) (fp : List Addr), FTs (X.blk s H scope (compEnvC scope cl C X.env) fp) tp Z fl1 ifs ba)
    (he : ∀ (Z : Hp) (s : Shared) (H : Hp) (C : Addr) (cl : List (Str × Addr)) (fp : List Addr), FE (X.blk s H scope (compEnvC scope cl C X.env) fp) tp Z fl1 elt (.o n) me)
    (hz : ∀ v ∈ own.map (·.2), fl[v]? = some 0) (hws : ∀ j ∈ ws, j ∈ own.map (·.2)) (hs : ∀ x, foldedSetIterable iter X.env x = pure x := by intro _; rfl) : FE X tp B fl (.ListComp elt [⟨tg, iter, ifs, 0⟩] scope pos) (.o (n + 1)) (mLc mi g ba me (own.map (·.2))) :=
  PE.imp (pe_lc hc hN hi ok (fun s H C cl fp => PG.ex (t := fun Z => tG X.K tp Z fl fl1 ws g) fun Z => hg Z s H C cl fp) (fun s H C cl fp => PTs.ex (t := fun Z => tT X.K tp Z fl1 ba) fun Z => ht Z s H C cl fp) (fun s H C cl fp => PE.ex (t := fun Z => tE X.K tp Z fl1 (.o n) me) fun Z => he Z s H C cl fp) hs) fun σ H Q h => lc_of hz hws h
theorem fs_setLc {i : Nat} {y : Str} {py spos : Pos} {scope : Scope} {own : List (Str × Nat)} (hc : X.calm = true) (hN : X.N.Nodup) (hy : X.N[i]? = some y) (hyl : X.env.scope.names.lookup y = some .local)
    (hsw : swapsWith (.ListComp elt [⟨tg, iter, ifs, 0⟩] scope pos) (some (.Name y py)) spos.line X.env = pure true) (hi : FI X tp B fl tg iter mi) (ok : BlkOk X.N X.env.scope scope own)
    (hg : ∀ (Z : Hp) (s : Shared) (H : Hp) (C : Addr) (cl : List (Str × Addr)) (fp : List Addr), FG (X.blk s H scope (compEnvC scope cl C X.env) fp) tp Z fl fl1 ws tg g)
    (ht : ∀ (Z : Hp) (s : Shared) (H : Hp) (C : Addr) (cl : List (Str × Addr)) (fp : List Addr), FTs (X.blk s H scope (compEnvC scope cl C X.env) fp) tp Z fl1 ifs ba)
    (he : ∀ (Z : Hp) (s : Shared) (H : Hp) (C : Addr) (cl : List (Str × Addr)) (fp : List Addr), FE (X.blk s H scope (compEnvC scope cl C X.env) fp) tp Z fl1 elt (.o n) me)
    (hz : ∀ v ∈ own.map (·.2), fl[v]? = some 0) (hws : ∀ j ∈ ws, j ∈ own.map (·.2)) (hfl : fl' = fl.set i (n + 1) := by rfl) (hs : ∀ x, foldedSetIterable iter X.env x = pure x := by intro _; rfl) :
    FS X tp B lv lp fl fl' (.Assign [.Name y py] (.ListComp elt [⟨tg, iter, ifs, 0⟩] scope pos) spos) (mSet i (mLc mi g ba me (own.map (·.2)))) :=
  PS.imp (ps_setLc hc hN hy hyl hsw hi ok (fun s H C cl fp => PG.ex (t := fun Z => tG X.K tp Z fl fl1 ws g) fun Z => hg Z s H C cl fp) (fun s H C cl fp => PTs.ex (t := fun Z => tT X.K tp Z fl1 ba) fun Z => ht Z s H C cl fp) (fun s H C cl fp => PE.ex (t := fun Z => tE X.K tp Z fl1 (.o n) me) fun Z => he Z s H C cl fp) hs) fun D σ H ⟨Fs, ρ, t, o, R, hm, q⟩ => by
    obtain ⟨d, t', h1, rfl⟩ := mSet_some hm
    subst hfl
    refine lc_of hz hws ⟨Fs, ρ, t, d, t', R, h1, fun v H' r => ?_⟩
    obtain ⟨F, nd, hF, ow⟩ := r.val
    refine q _ _ _ (RelF.store (F := F) (E := Fs.e) (S := Fs.s) (R.ext r.same r.tape nd hF ow.lists) i ?_)
    have eo : ours tp ⟨F ++ Fs.e, Fs.s⟩ = F ++ ours tp Fs := by unfold ours; simp only [List.append_assoc]
    rw [eo]
    exact ow
end
end FL
set_option maxRecDepth 100000
set_option maxHeartbeats 2000000
noncomputable section
namespace FL
open PySem PySem.Spec PyProof.Rows L2

/-! ### isinstance -/
def dKind : D → String
  | .non => "NoneType"
  | .bl _ => "bool"
  | .int _ => "int"
  | .str _ => "str"
  | .tup _ => "tuple"
  | .lst _ => "list"
  | .tape => "list"
  | _ => "object"
def hasKind : D → Bool
  | .obj _ _ _ => false
  | .dic _ _ => false
  | _ => true
def oIsi (T : String) (d : D) : Option D := if hasKind d then (kitB (dKind d) T).map D.bl else none
theorem kb_int_int : kitB "int" "int" = some true := by decide +kernel
theorem kb_bool_int : kitB "bool" "int" = some true := by decide +kernel
theorem kb_none_int : kitB "NoneType" "int" = some false := by decide +kernel
theorem kb_str_int : kitB "str" "int" = some false := by decide +kernel
theorem kb_tuple_int : kitB "tuple" "int" = some false := by decide +kernel
theorem kb_list_int : kitB "list" "int" = some false := by decide +kernel
theorem kb_int_bool : kitB "int" "bool" = some false := by decide +kernel
theorem kb_bool_bool : kitB "bool" "bool" = some true := by decide +kernel
theorem kb_none_bool : kitB "NoneType" "bool" = some false := by decide +kernel
theorem kb_str_bool : kitB "str" "bool" = some false := by decide +kernel
theorem kb_tuple_bool : kitB "tuple" "bool" = some false := by decide +kernel
theorem kb_list_bool : kitB "list" "bool" = some false := by decide +kernel
theorem kb_int_tuple : kitB "int" "tuple" = some false := by decide +kernel
theorem kb_bool_tuple : kitB "bool" "tuple" = some false := by decide +kernel
theorem kb_none_tuple : kitB "NoneType" "tuple" = some false := by decide +kernel
theorem kb_str_tuple : kitB "str" "tuple" = some false := by decide +kernel
theorem kb_tuple_tuple : kitB "tuple" "tuple" = some true := by decide +kernel
theorem kb_list_tuple : kitB "list" "tuple" = some false := by decide +kernel
theorem kb_int_str : kitB "int" "str" = some false := by decide +kernel
theorem kb_bool_str : kitB "bool" "str" = some false := by decide +kernel
theorem kb_none_str : kitB "NoneType" "str" = some false := by decide +kernel
theorem kb_str_str : kitB "str" "str" = some true := by decide +kernel
theorem kb_tuple_str : kitB "tuple" "str" = some false := by decide +kernel
theorem kb_list_str : kitB "list" "str" = some false := by decide +kernel
section
variable {X : Cx} {tp : TP} {B : Hp} {fl fl' fl1 ws vs : List Nat} {e e2 a b c tg iter elt : Expr} {es rest ifs : List Expr} {k ka kb kc : Kd} {m ma mb mc me : EM} {ba bb : BM} {mr : AM} {mi : IM} {g : GM} {pos : Pos} {lv n : Nat} {lp fl2 : List Nat} {st : Stmt} {sts sts2 : List Stmt} {sm sm1 sm2 : SM}
theorem Rp.ty {K : PySem.W.Frag} {H : Hp} {v : V} {d : D} (h : Rp K tp H v d) (nt : d.sc ≠ none ∨ ∃ l, d = .tup l ∨ d = .lst l) : TyX K H v (.type (dKind d)) := by
  cases h with
  | non => exact .base .non
  | bl b => exact .base (.bl b)
  | int i => exact .base (.int i)
  | str x => exact .base (.str x)
  | tup q _ _ =>
    rcases q with (q | ⟨o, q⟩) | ⟨o, its, n, q, c, _⟩
    · exact .base (.tup q)
    · exact .fTuple q
    · exact .kTuple q c
  | lst q _ _ => exact .base (.lst q)
  | tape e =>
    rcases nt with q | ⟨l, q | q⟩
    · exact absurd rfl q
    · cases q
    · cases q
  | obj _ _ _ _ _ _ =>
    rcases nt with q | ⟨l, q | q⟩
    · exact absurd rfl q
    · cases q
    · cases q
theorem fe_isi (T : String) {p p2 : Pos} (hg : Gl X "isinstance") (hm : X.mg "isinstance" = none) (hgT : Gl X (Str.ofString T)) (hmT : X.mg (Str.ofString T) = none) (hvT : bootBuiltins (Str.ofString T) = some (.type T)) (ha : FE X tp B fl e k m)
    (hT : T = "int" ∨ T = "bool" ∨ T = "tuple" ∨ T = "str") (hnT : Str.ofString T ≠ "__name__" := by decide) (hdT : (Str.ofString T == ("__debug__" : Str)) = false := by decide)
    (h1 : starEach [e, .Name (Str.ofString T) p2] X.env = (false, eval e X.env) :: starEach [.Name (Str.ofString T) p2] X.env := by rfl) (h2 : starEach [.Name (Str.ofString T) p2] X.env = (false, eval (.Name (Str.ofString T) p2) X.env) :: starEach [] X.env := by rfl)
    (hpl : (backTo pos (starEach [.Name (Str.ofString T) p2] X.env)).any (·.1) = false := by rfl) : FE X tp B fl (.Call (.Name "isinstance" p) [e, .Name (Str.ofString T) p2] [] pos) (.o 0) (mUn (oIsi T) m) :=
  PE.imp (pe_callB call_isi hg hm PyProof.Rows.boot_isinstance (pa_cons ha (pa_cons (pe_bltn (v := .ty T) hgT hmT hvT rfl hnT hdT) pa_nil h2) h1) (by decide) (by decide) h1 hpl) fun σ H Q ⟨Fs, ρ, t, d, t', R, hm', q⟩ => by
    obtain ⟨x, e1, e2⟩ := mUn_some hm'
    refine ⟨Fs, ρ, t, x, t', R, e1, fun v H1 r => ?_⟩
    have hk : hasKind x = true := by
      unfold oIsi at e2
      split at e2
      · assumption
      · cases e2
    unfold oIsi at e2
    rw [if_pos hk] at e2
    by_cases nt : x.sc ≠ none ∨ ∃ l, x = .tup l ∨ x = .lst l
    · cases e3 : kitB (dKind x) T with
      | none => rw [e3] at e2; cases e2
      | some b =>
        rw [e3] at e2
        cases e2
        exact ⟨v, .ty T, _, _, b, rfl, .ty T, (r.inn R.ok).all.ty nt, kit_ty e3, q _ _ (.trans r.same r.tape (.sc r.tape rfl))⟩
    · cases x with
      | tape =>
        -- the tape is a list
        have i := (r.inn R.ok).all
        cases i with
        | tape e =>
          obtain ⟨_, ea, _⟩ := r.tape _ _ e
          cases e3 : kitB (dKind .tape) T with
          | none => rw [e3] at e2; cases e2
          | some b =>
            rw [e3] at e2
            cases e2
            exact ⟨_, .ty T, _, _, b, rfl, .ty T, .base (.lst ea), kit_ty e3, q _ _ (.trans r.same r.tape (.sc r.tape rfl))⟩
      | tup l => exact absurd (.inr ⟨l, .inl rfl⟩) nt
      | lst l => exact absurd (.inr ⟨l, .inr rfl⟩) nt
      | non => exact absurd (.inl (by simp [D.sc])) nt
      | bl b => exact absurd (.inl (by simp [D.sc])) nt
      | int b => exact absurd (.inl (by simp [D.sc])) nt
      | str b => exact absurd (.inl (by simp [D.sc])) nt
      | obj c ks l => cases hk
      | dic ks l => cases hk

/-! ### lists of ours that change -/
/-- a list of ours at a, of slot i, is changed -/
theorem RelF.mut {K : PySem.W.Frag} {H : Hp} {σ : L2.St} {ρ : Env} {t : Tape} {F E : List Addr} {S : List (List Addr)} (r : RelF K tp B fl ⟨F ++ E, S⟩ H σ ρ t) (i : Nat) {G G' : List Addr} {a : Addr} {ys : List V} {v : V} {d : D}
    (hn : fl[i]? = some (n + 1)) (hG : S[i]? = some G) (ha : a ∈ G) (hG' : ∀ b ∈ G', b ∈ G ∨ b ∈ F) (nd : G'.Nodup) (hv : σ[i]? = some (some v)) (ow : OwnN K tp (n + 1) (hid (ours tp ⟨F ++ E, S⟩) H) (upd H a (.lst ys)) v d G') :
    RelF K tp B fl ⟨E, S.set i G'⟩ (upd H a (.lst ys)) σ (ρ.set i (some d)) t := by
  have l1 := r.l1
  have l2 := r.l2
  have l3 : S.length = σ.length := r.l3
  have hi : i < S.length := (List.getElem?_eq_some_iff.mp hG).1
  have haS : a ∈ S.flatten := List.mem_flatten.mpr ⟨G, List.mem_of_getElem? hG, ha⟩
  have hao : a ∈ ours tp ⟨F ++ E, S⟩ := List.mem_append_left _ (List.mem_append_right _ haS)
  obtain ⟨n1, n2, n3⟩ := List.nodup_append.mp r.nd
  obtain ⟨m1, m2, m3⟩ := List.nodup_append.mp n1
  obtain ⟨p1, p2, p3⟩ := List.nodup_append.mp m1
  have nt : a ∉ tpl tp := fun z => n3 a (List.mem_append_right _ haS) a z rfl
  have pw := List.pairwise_iff_getElem.mp (List.pairwise_flatten.mp m2).2
  have apart : ∀ (j : Nat) (Gj : List Addr), j ≠ i → S[j]? = some Gj → ∀ b ∈ Gj, b ∉ G := fun j Gj hj e b hb hbG => by
    obtain ⟨hj', ej⟩ := List.getElem?_eq_some_iff.mp e
    obtain ⟨_, ei⟩ := List.getElem?_eq_some_iff.mp hG
    rw [← ej] at hb
    rw [← ei] at hbG
    rcases Nat.lt_or_gt_of_ne hj with q | q
    · exact pw j i hj' hi q b hb b hbG rfl
    · exact pw i j hi hj' q b hbG b hb rfl
  -- the state over the changed heap, with the old parts
  have memb : ∀ b, b ∈ E ++ (S.set i G').flatten → b ∈ (F ++ E) ++ S.flatten := fun b hb => by
    rcases List.mem_append.mp hb with z | z
    · exact List.mem_append_left _ (List.mem_append_right _ z)
    · rcases mem_flatten_set z with z | z
      · rcases hG' b z with z | z
        · exact List.mem_append_right _ (List.mem_flatten.mpr ⟨G, List.mem_of_getElem? hG, z⟩)
        · exact List.mem_append_left _ (List.mem_append_left _ z)
      · exact List.mem_append_right _ z
  have sub := sub_ours (Fs := ⟨F ++ E, S⟩) (Gs := ⟨E, S.set i G'⟩) (tp := tp) (H := upd H a (.lst ys)) memb
  have eh : hid (ours tp ⟨F ++ E, S⟩) (upd H a (.lst ys)) = hid (ours tp ⟨F ++ E, S⟩) H := hid_upd hao
  -- no name twice in what stays
  have nd2 : ∀ (L : List (List Addr)) (j : Nat), L.flatten.Nodup → (∀ k Gk, k ≠ j → L[k]? = some Gk → ∀ b ∈ Gk, b ∉ G') → (L.set j G').flatten.Nodup := by
    intro L
    induction L with
    | nil => intro j _ _; simp
    | cons x L ih =>
      intro j h1 h2
      simp only [List.flatten_cons] at h1
      obtain ⟨q1, q2, q3⟩ := List.nodup_append.mp h1
      cases j with
      | zero =>
        simp only [List.set_cons_zero, List.flatten_cons]
        refine List.nodup_append.mpr ⟨nd, q2, fun b hb c hc e => ?_⟩
        subst e
        obtain ⟨Gk, hGk, hbk⟩ := List.mem_flatten.mp hc
        obtain ⟨k, hk, ek⟩ := List.mem_iff_getElem.mp hGk
        exact h2 (k + 1) Gk (by omega) (by simpa using (List.getElem?_eq_some_iff.mpr ⟨hk, ek⟩)) b hbk hb
      | succ j =>
        simp only [List.set_cons_succ, List.flatten_cons]
        refine List.nodup_append.mpr ⟨q1, ih j q2 fun k Gk hk e => h2 (k + 1) Gk (by omega) (by simpa using e), fun b hb c hc e => ?_⟩
        subst e
        rcases mem_flatten_set hc with z | z
        · exact h2 0 x (by omega) rfl b hb z
        · exact q3 b hb b z rfl
  have r' : RelF K tp B fl ⟨F ++ E, S⟩ (upd H a (.lst ys)) σ (ρ.set i none) t := by
    refine ⟨l1, by simp [l2], l3, r.nd, r.tape.upd nt, by rw [eh]; exact r.base, fun b hb => ?_, r.z, fun j m' d' Gj h1 h2 h3 => ?_⟩
    · by_cases e : b = a
      · subst e; exact ⟨ys, upd_same⟩
      · obtain ⟨xs, q⟩ := r.lists b hb
        exact ⟨xs, by rw [upd_ne e]; exact q⟩
    · by_cases hj : i = j
      · subst hj
        rw [List.getElem?_set_self (by omega)] at h2; cases h2
      · rw [List.getElem?_set_ne hj] at h2
        obtain ⟨w, e, o⟩ := r.slot j m' d' Gj h1 h2 h3
        refine ⟨w, e, ?_⟩
        rw [eh]
        refine o.mono (Same.refl _) fun b u hb hu => ?_
        rw [upd_ne fun z => ?_]
        · exact hu
        · subst z
          exact apart j Gj (fun z => hj z.symm) h3 b hb ha
  refine r'.move l1 (by simp [l2]) (by simp [l3]) memb (List.nodup_append.mpr ⟨p2, nd2 S i m2 fun k Gk hk e b hb hb' => ?_, fun b hb c hc e => ?_⟩) (fun j Gj h1 h2 => ?_) fun j m' d' Gj h1 h2 h3 => ?_
  · rcases hG' b hb' with z | z
    · exact apart k Gk hk e b hb z
    · exact m3 b (List.mem_append_left _ z) b (List.mem_flatten.mpr ⟨Gk, List.mem_of_getElem? e, hb⟩) rfl
  · subst e
    rcases mem_flatten_set hc with z | z
    · rcases hG' b z with z | z
      · exact m3 b (List.mem_append_right _ hb) b (List.mem_flatten.mpr ⟨G, List.mem_of_getElem? hG, z⟩) rfl
      · exact p3 b z b hb rfl
    · exact m3 b (List.mem_append_right _ hb) b z rfl
  · have hj : i ≠ j := fun z => by subst z; rw [hn] at h1; cases h1
    rw [show (Ow.s ⟨E, S.set i G'⟩) = S.set i G' from rfl, List.getElem?_set_ne hj] at h2
    exact r.z j Gj h1 h2
  · by_cases hj : i = j
    · subst hj
      rw [hn] at h1
      rw [List.getElem?_set_self (by omega)] at h2
      rw [show (Ow.s ⟨E, S.set i G'⟩) = S.set i G' from rfl, List.getElem?_set_self hi] at h3
      cases h1; cases h2; cases h3
      exact ⟨v, hv, ow.mono (by rw [← eh]; exact sub) fun b u _ q => q⟩
    · rw [List.getElem?_set_ne hj] at h2
      rw [show (Ow.s ⟨E, S.set i G'⟩) = S.set i G' from rfl, List.getElem?_set_ne hj] at h3
      obtain ⟨w, e, o⟩ := r'.slot j m' d' Gj h1 (by rw [List.getElem?_set_ne hj]; exact h2) h3
      exact ⟨w, e, o.mono sub fun b u _ q => q⟩
end
end FL
set_option maxRecDepth 100000
set_option maxHeartbeats 2000000
noncomputable section
namespace FL
open PySem PySem.Spec PyProof.Rows L2
section
variable {X : Cx} {tp : TP} {B : Hp} {fl fl' fl1 ws vs : List Nat} {e e1 e2 e3 a b c tg iter elt : Expr} {es rest ifs : List Expr} {k ka kb kc : Kd} {m ma mb mc me : EM} {ba bb : BM} {mr : AM} {mi : IM} {g : GM} {pos : Pos} {lv n n1 n2 n3 : Nat} {lp fl2 : List Nat} {st : Stmt} {sts sts2 : List Stmt} {sm sm1 sm2 : SM}
theorem tyL {K : PySem.W.Frag} {H : Hp} {a : Addr} {xs : List V} (h : H a = some (.lst xs)) : tyV K "list" (.ref a) H := .inl ⟨rfl, xs, .inl (.inl h)⟩
/-- x.append(e) -/
def mApp (i : Nat) (m : EM) : SM := fun ρ t => match ρ[i]? with
  | some (some (.lst l)) => (m ρ t).bind fun p => if small l then some (.nx (ρ.set i (some (.lst (l ++ [p.1])))) p.2) else none
  | _ => none
theorem fs_append (i : Nat) {x : Str} {xp apos cpos : Pos} (hf : fl[i]? = some (n + 1)) (he : FE X tp B fl e (.o n) me) (hN : X.N[i]? = some x := by rfl) (hv : Vis X.env.scope x := by first | exact Or.inl rfl | exact Or.inr (Or.inl rfl) | exact Or.inr (Or.inr rfl)) (hd : (x == ("__debug__" : Str)) = false := by decide)
    (hcd : (x == ("__classdict__" : Str)) = false := by decide) (hbase : attributeBase (.Name x xp) "append" X.env (eval (.Name x xp) X.env) = eval (.Name x xp) X.env := by rfl)
    (hfew : ((backTo cpos (starEach (e :: []) X.env)).all (fun x => !x.1) && (backToKw cpos (keywordEach [] X.env)).all (fun x => x.1.isSome) && decide ((e :: ([] : List Expr)).length + ([] : List Keyword).length + (if ([] : List Keyword).isEmpty then 0 else 1) < 30)) = true := by rfl)
    (hline : (apos.endLine == cpos.line) = true := by rfl) (hs : starEach (e :: []) X.env = (false, eval e X.env) :: starEach [] X.env := by rfl) (hplain : (backTo cpos (starEach [] X.env)).any (·.1) = false := by rfl)
    (hsw : swapsWith (.Call (.Attribute (.Name x xp) "append" apos) [e] [] cpos) none pos.line X.env = pure false := by rfl) :
    FS X tp B lv lp fl fl (.Expr (.Call (.Attribute (.Name x xp) "append" apos) [e] [] cpos) pos) (mApp i me) :=
  PS.imp (ps_expr (pe_bm PySem.F.plainAttrs_list PySem.F.slot_list_append PySem.F.type_list_append mt_append (pe_var hN hv hd hcd) (pa_cons he pa_nil hs) hbase hfew hline hs hplain) hsw) fun D σ H ⟨Fs, ρ, t, o, R, hm, q⟩ => by
    unfold mApp at hm
    split at hm
    case h_2 => cases hm
    rename_i l hl
    obtain ⟨⟨d, t1⟩, h1, h2⟩ := bind_some hm
    simp only at h2
    split at h2
    case isFalse => cases h2
    rename_i hsm
    cases h2
    have hi : i < Fs.s.length := by rw [R.l3, ← R.l2]; exact (List.getElem?_eq_some_iff.mp hl).1
    obtain ⟨v, ev, ow⟩ := R.slot i (n + 1) _ _ hf hl (List.getElem?_eq_getElem hi)
    obtain ⟨p, xs, ds, Gs, rfl, e2, hp, l1, l2, eF, its⟩ := id ow
    cases e2
    have hpo : p ∈ Fs.s[i] := by rw [eF]; exact List.mem_cons_self
    have hpS : p ∈ Fs.s.flatten := List.mem_flatten.mpr ⟨_, List.getElem_mem hi, hpo⟩
    have hpt : p ∉ tpl tp := fun z => (List.nodup_append.mp R.nd).2.2 p (List.mem_append_right _ hpS) p z rfl
    refine ⟨.ref p, ev, tyL hp, Fs, ρ, t, d, t1, R, h1, fun v1 H1 r1 => ?_⟩
    obtain ⟨F, nd, hF, ow1⟩ := r1.val
    have hp1 : H1 p = some (.lst xs) := r1.same _ _ hp hpt
    refine ⟨p, xs, v1, rfl, rfl, hp1, ?_, ?_⟩
    · rw [l1]; exact Nat.lt_of_le_of_lt (of_sml hsm) (by decide)
    · have ex := R.ext r1.same r1.tape nd hF ow1.lists
      have eo : ours tp ⟨F ++ Fs.e, Fs.s⟩ = F ++ ours tp Fs := ours_ext F Fs
      have ex2 : RelF X.K tp B fl ⟨F ++ Fs.e, Fs.s⟩ H1 σ ρ t1 := ex
      have hpF : p ∉ F := fun z => by rw [hF p z] at hp; cases hp
      have hGn : (p :: Gs.flatten).Nodup := by
        rw [← eF]
        exact ((List.nodup_append.mp (List.nodup_append.mp R.nd).1).2.1).sublist (List.sublist_flatten_of_mem (List.getElem_mem hi))
      have hGl : ∀ b ∈ Gs.flatten, ∃ xs, H b = some (.lst xs) := fun b hb => ow.lists b (by rw [eF]; exact List.mem_cons_of_mem _ hb)
      have hGt : ∀ b ∈ Gs.flatten, b ∉ tpl tp := fun b hb z => (List.nodup_append.mp R.nd).2.2 b (List.mem_append_right _ (List.mem_flatten.mpr ⟨_, List.getElem_mem hi, by rw [eF]; exact List.mem_cons_of_mem _ hb⟩)) b z rfl
      have flat : (Gs ++ [F]).flatten = Gs.flatten ++ F := by simp
      refine q _ _ _ (RelF.mut (F := F) (E := Fs.e) (S := Fs.s) ex2 i (n := n) (G := Fs.s[i]) (G' := p :: (Gs ++ [F]).flatten) (a := p) hf (List.getElem?_eq_getElem hi) hpo (fun b hb => ?_) ?_ ev ⟨p, xs ++ [v1], l ++ [d], Gs ++ [F], rfl, rfl, upd_same, by simp [l1], by simp [l2], rfl, fun j v' d' Gj h1 h2 h3 => ?_⟩)
      · rw [flat] at hb
        rcases List.mem_cons.mp hb with z | z
        · exact .inl (by rw [eF, z]; exact List.mem_cons_self)
        · rcases List.mem_append.mp z with z | z
          · exact .inl (by rw [eF]; exact List.mem_cons_of_mem _ z)
          · exact .inr z
      · rw [flat, ← List.cons_append]
        refine List.nodup_append.mpr ⟨hGn, nd, fun b hb c hc e => ?_⟩
        subst e
        rcases List.mem_cons.mp hb with z | z
        · exact hpF (by rw [← z]; exact hc)
        · obtain ⟨ys, e⟩ := hGl b z
          rw [hF b hc] at e; cases e
      · rw [eo]
        by_cases hj : j < xs.length
        · rw [List.getElem?_append_left hj] at h1
          rw [List.getElem?_append_left (by omega)] at h2
          rw [List.getElem?_append_left (by omega)] at h3
          have hb : ∀ b ∈ Gj, b ∈ Gs.flatten := fun b hb => List.mem_flatten.mpr ⟨Gj, List.mem_of_getElem? h3, hb⟩
          refine (its j v' d' Gj h1 h2 h3).mono (fun b u q => ?_) fun b u hb' hu => ?_
          · obtain ⟨q1, q2⟩ := hid_some q
            refine hid_of (fun z => ?_) (r1.same b u q2 fun z => q1 (RelF.tsub b z))
            rcases List.mem_append.mp z with z | z
            · rw [hF b z] at q2; cases q2
            · exact q1 z
          · rw [upd_ne fun z => ?_]
            · exact r1.same b u hu (hGt b (hb b hb'))
            · exact (List.nodup_cons.mp hGn).1 (by rw [← z]; exact hb b hb')
        · have hj2 : j = xs.length := by
            have := (List.getElem?_eq_some_iff.mp h1).1
            simp at this; omega
          subst hj2
          rw [List.getElem?_append_right (Nat.le_refl _), Nat.sub_self] at h1
          rw [l1, List.getElem?_append_right (Nat.le_refl _), Nat.sub_self] at h2
          rw [l1, ← l2, List.getElem?_append_right (Nat.le_refl _), Nat.sub_self] at h3
          cases h1; cases h2; cases h3
          refine ow1.mono (Same.refl _) fun b u hb hu => ?_
          rw [upd_ne fun z => hpF (by rw [← z]; exact hb)]
          exact hu
/-- x[i] = e -/
def mSetI (i : Nat) (mx me : EM) : SM := fun ρ t => (me ρ t).bind fun p => (mx ρ p.2).bind fun q => match ρ[i]?, q.1 with
  | some (some (.lst l)), .int j => (ixN l.length j).map fun z => .nx (ρ.set i (some (.lst (l.set z p.1)))) q.2
  | _, _ => none
theorem fs_setI (i : Nat) {x : Str} {xp sp : Pos} (hf : fl[i]? = some (n + 1)) (he : FE X tp B fl e (.o n) me) (hx : FE X tp B fl e1 k ma) (hN : X.N[i]? = some x := by rfl) (hv : Vis X.env.scope x := by first | exact Or.inl rfl | exact Or.inr (Or.inl rfl) | exact Or.inr (Or.inr rfl)) (hd : (x == ("__debug__" : Str)) = false := by decide)
    (hcd : (x == ("__classdict__" : Str)) = false := by decide)
    (ha : ∀ v, assign (.Subscript (.Name x xp) e1 sp) X.env v = (do
      let ov ← holding [v] (eval (.Name x xp) X.env); let iv ← holding [v, ov] (eval e1 X.env)
      standAt sp; holding [v, ov, iv] (setItem ov iv v); release [v, ov, iv] []) := by intro _; rfl)
    (hs : swapsWithSole [.Subscript (.Name x xp) e1 sp] e pos.line X.env = pure false := by rfl) (hw : swappedStores [.Subscript (.Name x xp) e1 sp] e X.env = pure none := by rfl)
    (h1 : (assignEach [.Subscript (.Name x xp) e1 sp] X.env).map (·.2) = [assign (.Subscript (.Name x xp) e1 sp) X.env] := by rfl) :
    FS X tp B lv lp fl fl (.Assign [.Subscript (.Name x xp) e1 sp] e pos) (mSetI i ma me) :=
  PS.imp (ps_asg he (pg_sub (pe_var hN hv hd hcd) hx set_list ha) hs hw h1) fun D σ H ⟨Fs, ρ, t, o, R, hm, q⟩ => by
    obtain ⟨⟨d, t1⟩, h1, h2⟩ := bind_some hm
    obtain ⟨⟨dj, t2⟩, h3, h4⟩ := bind_some h2
    simp only at h3 h4
    split at h4
    case h_2 => cases h4
    rename_i l j hl
    cases ez : ixN l.length j with
    | none => rw [ez] at h4; cases h4
    | some z =>
      rw [ez] at h4
      cases h4
      have hzl : z < l.length := (ixN_seq ez).2.1
      have hi : i < Fs.s.length := by rw [R.l3, ← R.l2]; exact (List.getElem?_eq_some_iff.mp hl).1
      obtain ⟨v, ev, ow⟩ := R.slot i (n + 1) _ _ hf hl (List.getElem?_eq_getElem hi)
      obtain ⟨p, xs, ds, Gs, rfl, e2, hp, l1, l2, eF, its⟩ := id ow
      cases e2
      have hpo : p ∈ Fs.s[i] := by rw [eF]; exact List.mem_cons_self
      have hpS : p ∈ Fs.s.flatten := List.mem_flatten.mpr ⟨_, List.getElem_mem hi, hpo⟩
      have hpt : p ∉ tpl tp := fun z => (List.nodup_append.mp R.nd).2.2 p (List.mem_append_right _ hpS) p z rfl
      refine ⟨Fs, ρ, t, d, t1, R, h1, fun v1 H1 r1 => ⟨.ref p, ev, Fs, ρ, t1, _, t2, R.step r1.same r1.tape, h3, fun v2 H2 r2 => ?_⟩⟩
      have R1 := R.step r1.same r1.tape
      obtain ⟨F, nd, hF, ow1⟩ := r1.val
      have s12 := r1.same.trans r2.same
      have hp2 : H2 p = some (.lst xs) := s12 _ _ hp hpt
      refine ⟨p, xs, j, z, rfl, (r2.inn R1.ok).all.int_inv, hp2, by rw [l1]; exact ez, ?_⟩
      have Ft : ∀ b ∈ F, b ∉ tpl tp := fun b hb z => by
        obtain ⟨ys, e⟩ := R.tape.lists b z
        rw [hF b hb] at e; cases e
      have ow2 : OwnN X.K tp n (hid (F ++ ours tp Fs) H2) H2 v1 d F := ow1.mono (fun b u q => by
        obtain ⟨q1, q2⟩ := hid_some q
        exact hid_of q1 (r2.same b u q2 fun z => q1 (List.mem_append_right _ (RelF.tsub b z)))) fun b u hb hu => r2.same b u hu (Ft b hb)
      have ex := R.ext s12 r2.tape nd hF ow2.lists
      have eo : ours tp ⟨F ++ Fs.e, Fs.s⟩ = F ++ ours tp Fs := ours_ext F Fs
      have hpF : p ∉ F := fun z => by rw [hF p z] at hp; cases hp
      have hGn : (p :: Gs.flatten).Nodup := by
        rw [← eF]
        exact ((List.nodup_append.mp (List.nodup_append.mp R.nd).1).2.1).sublist (List.sublist_flatten_of_mem (List.getElem_mem hi))
      have hGl : ∀ b ∈ Gs.flatten, ∃ xs, H b = some (.lst xs) := fun b hb => ow.lists b (by rw [eF]; exact List.mem_cons_of_mem _ hb)
      have hGt : ∀ b ∈ Gs.flatten, b ∉ tpl tp := fun b hb z => (List.nodup_append.mp R.nd).2.2 b (List.mem_append_right _ (List.mem_flatten.mpr ⟨_, List.getElem_mem hi, by rw [eF]; exact List.mem_cons_of_mem _ hb⟩)) b z rfl
      refine q _ _ _ (RelF.mut (F := F) (E := Fs.e) (S := Fs.s) ex i (n := n) (G := Fs.s[i]) (G' := p :: (Gs.set z F).flatten) (a := p) hf (List.getElem?_eq_getElem hi) hpo (fun b hb => ?_) ?_ ev ⟨p, xs.set z v1, l.set z d, Gs.set z F, rfl, rfl, upd_same, by simp [l1], by simp [l2], rfl, fun jj v' d' Gj h1 h2 h3 => ?_⟩)
      · rcases List.mem_cons.mp hb with y | y
        · exact .inl (by rw [eF, y]; exact List.mem_cons_self)
        · rcases mem_flatten_set y with y | y
          · exact .inr y
          · exact .inl (by rw [eF]; exact List.mem_cons_of_mem _ y)
      · refine List.nodup_cons.mpr ⟨fun y => ?_, nodup_set (List.nodup_append.mpr ⟨nd, (List.nodup_cons.mp hGn).2, fun b hb c hc e => ?_⟩)⟩
        · rcases mem_flatten_set y with y | y
          · exact hpF y
          · exact (List.nodup_cons.mp hGn).1 y
        · subst e
          obtain ⟨ys, e⟩ := hGl b hc
          rw [hF b hb] at e; cases e
      · rw [eo]
        by_cases hj : z = jj
        · subst hj
          rw [List.getElem?_set_self (by omega)] at h1
          rw [List.getElem?_set_self hzl] at h2
          rw [List.getElem?_set_self (by omega)] at h3
          cases h1; cases h2; cases h3
          refine ow2.mono (Same.refl _) fun b u hb hu => ?_
          rw [upd_ne fun z => hpF (by rw [← z]; exact hb)]
          exact hu
        · rw [List.getElem?_set_ne hj] at h1 h2 h3
          have hb : ∀ b ∈ Gj, b ∈ Gs.flatten := fun b hb => List.mem_flatten.mpr ⟨Gj, List.mem_of_getElem? h3, hb⟩
          refine (its jj v' d' Gj h1 h2 h3).mono (fun b u q => ?_) fun b u hb' hu => ?_
          · obtain ⟨q1, q2⟩ := hid_some q
            refine hid_of (fun z => ?_) (s12 b u q2 fun z => q1 (RelF.tsub b z))
            rcases List.mem_append.mp z with z | z
            · rw [hF b z] at q2; cases q2
            · exact q1 z
          · rw [upd_ne fun z => ?_]
            · exact s12 b u hu (hGt b (hb b hb'))
            · exact (List.nodup_cons.mp hGn).1 (by rw [← z]; exact hb b hb')
end
end FL
set_option maxRecDepth 100000
set_option maxHeartbeats 2000000
noncomputable section
namespace FL
open PySem PySem.Spec PyProof.Rows L2
section
variable {X : Cx} {tp : TP} {B : Hp} {fl fl' fl1 ws vs : List Nat} {e e1 e2 e3 a b c tg iter elt : Expr} {es rest ifs : List Expr} {k ka kb kc : Kd} {m ma mb mc me : EM} {ba bb : BM} {mr : AM} {mi : IM} {g : GM} {pos : Pos} {lv n n1 n2 n3 : Nat} {lp fl2 : List Nat} {st : Stmt} {sts sts2 : List Stmt} {sm sm1 sm2 : SM}
/-! ### x op= e of ints -/
def mAug (i : Nat) (f : Int → Int → Int) (me : EM) : SM := fun ρ t => match ρ[i]? with
  | some (some (.int a)) => (me ρ t).bind fun p => match p.1 with
    | .int b => some (.nx (ρ.set i (some (.int (f a b)))) p.2)
    | _ => none
  | _ => none
theorem fs_aug (i : Nat) {x : Str} {op : Operator} {f : Int → Int → Int} {pos' : Pos} (hN : X.N.Nodup) (he : FE X tp B fl e k me) (ho : PIp X op (ipI f)) (hi : X.N[i]? = some x := by rfl) (hx : Loc X.env.scope x := by first | exact Or.inl rfl | exact Or.inr rfl)
    (hf : X.fn x = true ∨ X.env.scope.names.lookup x = some .local := by first | exact .inl rfl | exact .inr rfl) (hfl : fl' = fl.set i 0 := by rfl) : FS X tp B lv lp fl fl' (.AugAssign (.Name x pos') op e pos) (mAug i f me) :=
  PS.imp (ps_aug hN hi hx he ho hf) fun D σ H ⟨Fs, ρ, t, o, R, hm, q⟩ => by
    unfold mAug at hm
    split at hm
    case h_2 => cases hm
    rename_i a hl
    obtain ⟨⟨d, t1⟩, h1, h2⟩ := bind_some hm
    simp only at h2
    split at h2
    case h_2 => cases h2
    rename_i b
    cases h2
    have hi' : i < Fs.s.length := by rw [R.l3, ← R.l2]; exact (List.getElem?_eq_some_iff.mp hl).1
    have hf' : i < fl.length := by rw [R.l1, ← R.l2]; exact (List.getElem?_eq_some_iff.mp hl).1
    obtain ⟨v, ev, ow⟩ := R.slot i _ _ _ (List.getElem?_eq_getElem hf') hl (List.getElem?_eq_getElem hi')
    have evi : v = .int a := (ow.rp hid_sub).int_inv
    subst evi hfl
    refine ⟨.int a, ev, Fs, ρ, t, _, _, R, h1, fun v1 H1 r1 => ⟨a, b, rfl, (r1.inn R.ok).all.int_inv, ?_⟩⟩
    exact q _ _ _ ((R.step r1.same r1.tape).store0 i (.int _))
/-! ### a, b = e1, e2 with plain names -/
def mPar2 (i j : Nat) (ma mb : EM) : SM := fun ρ t => (ma ρ t).bind fun p => (mb ρ p.2).map fun q => .nx ((ρ.set i (some p.1)).set j (some q.1)) q.2
/-- two values of ours, made one after another, are stored -/
theorem RelF.store2 {K : PySem.W.Frag} {Fs : Ow} {H H1 H2 : Hp} {σ : L2.St} {ρ : Env} {t t1 t2 : Tape} (R : RelF K tp B fl Fs H σ ρ t) {v w : V} {d1 d2 : D} {F G : List Addr} (s1 : SameX tp H H1) (ta1 : TapeAt tp H1 t1) (nd : F.Nodup) (hF : ∀ a ∈ F, H a = none) (ow : OwnN K tp n1 (hid (F ++ ours tp Fs) H1) H1 v d1 F)
    (s2 : SameX tp H1 H2) (ta2 : TapeAt tp H2 t2) (ndG : G.Nodup) (hG : ∀ a ∈ G, H1 a = none) (owG : OwnN K tp n2 (hid (G ++ ours tp ⟨F ++ Fs.e, Fs.s⟩) H2) H2 w d2 G) (i j : Nat) (hij : i ≠ j) :
    RelF K tp B ((fl.set i n1).set j n2) ⟨Fs.e, (Fs.s.set j G).set i F⟩ H2 ((σ.set i (some v)).set j (some w)) ((ρ.set i (some d1)).set j (some d2)) t2 := by
  have Ft : ∀ b ∈ F, b ∉ tpl tp := fun b hb z => by
    obtain ⟨ys, e⟩ := R.tape.lists b z
    rw [hF b hb] at e; cases e
  have ex1 := R.ext s1 ta1 nd hF ow.lists
  have eo1 : ours tp ⟨F ++ Fs.e, Fs.s⟩ = F ++ ours tp Fs := ours_ext F Fs
  have ex2 := ex1.ext s2 ta2 ndG hG owG.lists
  have eo2 : ours tp ⟨G ++ (F ++ Fs.e), Fs.s⟩ = G ++ ours tp ⟨F ++ Fs.e, Fs.s⟩ := ours_ext G ⟨F ++ Fs.e, Fs.s⟩
  have st1 := RelF.store (F := G) (E := F ++ Fs.e) (S := Fs.s) ex2 j (by rw [eo2]; exact owG)
  have ow' : OwnN K tp n1 (hid (ours tp ⟨F ++ Fs.e, Fs.s.set j G⟩) H2) H2 v d1 F := by
    refine ow.mono (fun b u q => ?_) fun b u hb hu => s2 b u hu (Ft b hb)
    obtain ⟨q1, q2⟩ := hid_some q
    refine hid_of (fun z => ?_) (s2 b u q2 fun z => q1 (List.mem_append_right _ (RelF.tsub b z)))
    rcases List.mem_append.mp z with z | z
    · rcases List.mem_append.mp z with z | z
      · rcases List.mem_append.mp z with z | z
        · exact q1 (List.mem_append_left _ z)
        · exact q1 (List.mem_append_right _ (List.mem_append_left _ (List.mem_append_left _ z)))
      · rcases mem_flatten_set z with z | z
        · rw [hG b z] at q2; cases q2
        · exact q1 (List.mem_append_right _ (List.mem_append_left _ (List.mem_append_right _ z)))
    · exact q1 (List.mem_append_right _ (RelF.tsub b z))
  have st2 := RelF.store (F := F) (E := Fs.e) (S := Fs.s.set j G) st1 i ow'
  rw [List.set_comm _ _ hij, List.set_comm _ _ hij, List.set_comm _ _ hij]
  exact st2
theorem fs_par2 (i j : Nat) {x y : Str} {px py pt : Pos} {kt k2 pt2} (hc : X.calm = true) (hN : X.N.Nodup) (ha : FE X tp B fl e1 (.o n1) ma) (hb : FE X tp B fl e2 (.o n2) mb) (hw : swappedStores [.Tuple [.Name x px, .Name y py] kt pt] (.Tuple [e1, e2] k2 pt2) X.env = pure (some [x, y])) (hij : i ≠ j := by decide) (hi : X.N[i]? = some x := by rfl) (hj : X.N[j]? = some y := by rfl)
    (hx : X.env.scope.names.lookup x = some .local := by rfl) (hy : X.env.scope.names.lookup y = some .local := by rfl)
    (h1 : starEach (e1 :: [e2]) X.env = (false, eval e1 X.env) :: starEach [e2] X.env := by rfl) (h2 : starEach (e2 :: []) X.env = (false, eval e2 X.env) :: starEach [] X.env := by rfl)
    (hs : swapsWithSole [.Tuple [.Name x px, .Name y py] kt pt] (.Tuple [e1, e2] k2 pt2) pos.line X.env = pure false := by rfl) (hfl : fl' = (fl.set i n1).set j n2 := by rfl) :
    FS X tp B lv lp fl fl' (.Assign [.Tuple [.Name x px, .Name y py] kt pt] (.Tuple [e1, e2] k2 pt2) pos) (mPar2 i j ma mb) :=
  PS.imp (ps_par hc hN hi hj hij hx hy (pa_cons ha (pa_cons hb pa_nil h2) h1) hw hs) fun D σ H ⟨Fs, ρ, t, o, R, hm, q⟩ => by
    obtain ⟨⟨d1, t1⟩, h1, h2⟩ := bind_some hm
    simp only at h2
    cases h3 : mb ρ t1 with
    | none => rw [h3] at h2; cases h2
    | some p =>
      obtain ⟨d2, t2⟩ := p
      rw [h3] at h2
      cases h2
      subst hfl
      refine ⟨Fs, ρ, t, d1, t1, R, h1, fun v1 H1 r1 => ?_⟩
      obtain ⟨F, nd, hF, ow⟩ := r1.val
      refine ⟨⟨F ++ Fs.e, Fs.s⟩, ρ, t1, d2, t2, R.ext r1.same r1.tape nd hF ow.lists, h3, fun v2 H2 r2 => ?_⟩
      obtain ⟨G, ndG, hG, owG⟩ := r2.val
      exact ⟨v1, v2, rfl, q _ _ _ (R.store2 r1.same r1.tape nd hF ow r2.same r2.tape ndG hG owG i j hij)⟩
/-! three names, frozen values -/
def mPar3 (i j l : Nat) (ma mb mc : EM) : SM := fun ρ t => (ma ρ t).bind fun p => (mb ρ p.2).bind fun q => (mc ρ q.2).map fun r => .nx (((ρ.set i (some p.1)).set j (some q.1)).set l (some r.1)) r.2
theorem fs_par3 (i j l : Nat) {x y z : Str} {px py pz pt : Pos} {kt k2 pt2} (hc : X.calm = true) (hN : X.N.Nodup) (ha : FE X tp B fl e1 (.o 0) ma) (hb : FE X tp B fl e2 (.o 0) mb) (hcc : FE X tp B fl e3 (.o 0) mc)
    (hw : swappedStores [.Tuple [.Name x px, .Name y py, .Name z pz] kt pt] (.Tuple [e1, e2, e3] k2 pt2) X.env = pure (some [x, y, z])) (hij : i ≠ j := by decide) (hil : i ≠ l := by decide) (hjl : j ≠ l := by decide) (hi : X.N[i]? = some x := by rfl) (hj : X.N[j]? = some y := by rfl) (hl : X.N[l]? = some z := by rfl)
    (hx : X.env.scope.names.lookup x = some .local := by rfl) (hy : X.env.scope.names.lookup y = some .local := by rfl) (hz : X.env.scope.names.lookup z = some .local := by rfl)
    (h1 : starEach (e1 :: [e2, e3]) X.env = (false, eval e1 X.env) :: starEach [e2, e3] X.env := by rfl) (h2 : starEach (e2 :: [e3]) X.env = (false, eval e2 X.env) :: starEach [e3] X.env := by rfl) (h3 : starEach (e3 :: []) X.env = (false, eval e3 X.env) :: starEach [] X.env := by rfl)
    (hs : swapsWithSole [.Tuple [.Name x px, .Name y py, .Name z pz] kt pt] (.Tuple [e1, e2, e3] k2 pt2) pos.line X.env = pure false := by rfl) (hfl : fl' = ((fl.set i 0).set j 0).set l 0 := by rfl) :
    FS X tp B lv lp fl fl' (.Assign [.Tuple [.Name x px, .Name y py, .Name z pz] kt pt] (.Tuple [e1, e2, e3] k2 pt2) pos) (mPar3 i j l ma mb mc) :=
  PS.imp (ps_par3 hc hN hi hj hl hij hil hjl hx hy hz (pa_cons ha (pa_cons hb (pa_cons hcc pa_nil h3) h2) h1) hw hs) fun D σ H ⟨Fs, ρ, t, o, R, hm, q⟩ => by
    obtain ⟨⟨d1, t1⟩, h1, h2⟩ := bind_some hm
    obtain ⟨⟨d2, t2⟩, h3, h4⟩ := bind_some h2
    simp only at h3 h4
    cases h5 : mc ρ t2 with
    | none => rw [h5] at h4; cases h4
    | some p =>
      obtain ⟨d3, t3⟩ := p
      rw [h5] at h4
      cases h4
      subst hfl
      refine ⟨Fs, ρ, t, d1, t1, R, h1, fun v1 H1 r1 => ?_⟩
      have R1 := R.step r1.same r1.tape
      refine ⟨Fs, ρ, t1, d2, t2, R1, h3, fun v2 H2 r2 => ?_⟩
      have R2 := R1.step r2.same r2.tape
      refine ⟨Fs, ρ, t2, d3, t3, R2, h5, fun v3 H3 r3 => ?_⟩
      have R3 := R2.step r3.same r3.tape
      have i1 : Rp X.K tp (hid (ours tp Fs) H3) v1 d1 := ((r1.frz R.ok).mono (hid_step R1.ok r2.same)).mono (hid_step R2.ok r3.same)
      have i2 : Rp X.K tp (hid (ours tp Fs) H3) v2 d2 := (r2.frz R1.ok).mono (hid_step R2.ok r3.same)
      have i3 := r3.frz R2.ok
      have s1 := R3.store0 i i1
      have s2 := s1.store0 j (i2.mono (hid_same_of fun a ha => ours_set0 ha))
      have s3 := s2.store0 l (i3.mono (hid_same_of fun a ha => ours_set0 (Fs := Fs) (ours_set0 (Fs := ⟨Fs.e, Fs.s.set i []⟩) ha)))
      exact ⟨v1, v2, v3, rfl, q _ _ _ s3⟩
/-! ### defs of the text -/
abbrev FM := List D → Tape → Option (D × Tape)
/-- what a def hands back, from H on -/
structure Ret (K : PySem.W.Frag) (tp : TP) (H : Hp) (lv : Nat) (d : D) (t' : Tape) (v : V) (H' : Hp) : Prop where
  same : SameX tp H H'
  tape : TapeAt tp H' t'
  val : RetV K tp lv (fun a => H a = none) d v H'
/-- a def's promise: f of the data, and the tape turned -/
def spD (K : PySem.W.Frag) (n lv : Nat) (f : FM) : Sp := fun vs H Q _ => ∃ tp t ds d t', TapeAt tp H t ∧ ds.length = n ∧ RpL K tp (hid (tpl tp) H) vs ds ∧ f ds t = some (d, t') ∧ ∀ v H', Ret K tp H lv d t' v H' → Q v H'
/-- plain to the level -/
def plnL : Nat → D → Bool
  | 0, d => pln dep d
  | n + 1, .lst l => l.all (plnL n)
  | _ + 1, _ => false
theorem OwnN.pln {K : PySem.W.Frag} {H Hf Hg : Hp} : ∀ (n : Nat) {v : V} {d : D} {F : List Addr} {O : List Addr}, plnL n d = true → OwnN K tp n Hf H v d F → Same Hf H → (∀ a ∈ O, ∃ xs, H a = some (.lst xs)) → OwnN K tp n (hid O H) H v d F
  | 0, v, d, F, O, hp, h, s, hO => ⟨Rp.noL (pln_noL dep d hp) (h.1.mono s) hO, h.2⟩
  | n + 1, v, d, F, O, hp, h, s, hO => by
    obtain ⟨a, xs, ds, Fs, e1, e2, ha, l1, l2, eF, r⟩ := h
    subst e2
    exact ⟨a, xs, ds, Fs, e1, rfl, ha, l1, l2, eF, fun i v d Fi h1 h2 h3 => OwnN.pln (Hg := Hg) n (List.all_eq_true.mp (show ds.all (plnL n) = true from hp) d (List.mem_of_getElem? h2)) (r i v d Fi h1 h2 h3) s hO⟩
def mCall (n lv : Nat) (f : FM) (ma : AM) : EM := fun ρ t => (ma ρ t).bind fun p => if p.1.length = n then (f p.1 p.2).bind fun q => if plnL lv q.1 then some q else none else none
theorem mCall_some {f : FM} {ma : AM} {ρ : Env} {t t' : Tape} {d : D} (h : mCall n lv f ma ρ t = some (d, t')) : ∃ ds t1, ma ρ t = some (ds, t1) ∧ ds.length = n ∧ f ds t1 = some (d, t') ∧ plnL lv d = true := by
  obtain ⟨⟨ds, t1⟩, h1, h2⟩ := bind_some h
  simp only at h2
  split at h2
  case isFalse => cases h2
  rename_i hl
  obtain ⟨⟨d', t2⟩, h3, h4⟩ := bind_some h2
  simp only at h4
  split at h4
  case isFalse => cases h4
  rename_i hp
  cases h4
  exact ⟨ds, t1, h1, hl, h3, hp⟩
theorem ret_res {K : PySem.W.Frag} {Fs : Ow} {H H' : Hp} {σ : L2.St} {ρ : Env} {t t' : Tape} {d : D} {v : V} (R : RelF K tp B fl Fs H σ ρ t) (hlv : lv < 1000) (hp : plnL lv d = true) (r : Ret K tp H lv d t' v H') : Res K tp (ours tp Fs) H (.o lv) d t' v H' := by
  obtain ⟨F, nd, hF, ow⟩ : ∃ F : List Addr, F.Nodup ∧ (∀ a ∈ F, H a = none) ∧ OwnN K tp lv (hid (F ++ tpl tp) H') H' v d F := by
    rcases r.val with h | h
    · exact h.2
    · omega
  refine ⟨r.same, r.tape, F, nd, hF, OwnN.pln (Hg := H) lv hp ow hid_sub fun a ha => ?_⟩
  rcases List.mem_append.mp ha with z | z
  · exact ow.lists a z
  · exact (R.ok.step r.same r.tape).ls a z
theorem fe_call {CX : CXT} {j : Nat} {f : Addr} {fd : FuncData} {ps : List Str} {x : Str} {p : Pos} {E : XK} {fm : FM} (F : FnOk X.prog X.w X.K X.mg X.base CX j f fd ps (spD X.K n lv fm)) (hr : Room j X.A) (hg : Gl X x) (hm : X.mg x = some (.ref f)) (hk : PySem.W.keepIn X.K (.ref f) = true) (hb : Binds X.K fd ps []) (hx : Passes CX X E)
    (ha : FA X tp B fl (e :: es) .b mr) (hdb : (x == ("__debug__" : Str)) = false := by decide) (he : starEach (e :: es) X.env = (false, eval e X.env) :: starEach es X.env := by rfl) (hpl : (backTo pos (starEach es X.env)).any (·.1) = false := by rfl) (hlv : lv < 1000 := by decide) :
    FE X tp B fl (.Call (.Name x p) (e :: es) [] pos) (.o lv) (mCall n lv fm mr) :=
  PE.imp (pe_call F hr hg hm hk hb .nil hx ha hdb he hpl) fun σ H Q ⟨Fs, ρ, t, d, t', R, hm', q⟩ => by
    obtain ⟨ds, t1, h1, hl, h2, hp⟩ := mCall_some hm'
    refine ⟨Fs, ρ, t, ds, t1, R, h1, fun vs H1 r1 => ?_⟩
    have R1 := R.step r1.same r1.tape
    refine ⟨tp, t1, ds, d, t', r1.tape, hl, ?_, h2, fun v H' r => q v H' (.trans r1.same r1.tape (ret_res R1 hlv hp r))⟩
    rw [List.append_nil]
    exact r1.rplB
/-- a weaker function -/
theorem FnOk.fm {P : Program} {w : World} {K : PySem.W.Frag} {mg : Str → Option Value} {base : Heap} {CX : CXT} {j : Nat} {f : Addr} {fd : FuncData} {ps : List Str} {fm gm : FM} (F : FnOk P w K mg base CX j f fd ps (spD K n lv fm)) (h : ∀ ds t r, gm ds t = some r → fm ds t = some r) : FnOk P w K mg base CX j f fd ps (spD K n lv gm) :=
  F.imp fun vs H Q E ⟨tp, t, ds, d, t', h1, h2, h3, h4, h5⟩ => ⟨tp, t, ds, d, t', h1, h2, h3, h _ _ _ h4, h5⟩
/-- a def by its body: N names, the parameters first -/
def fnM (N lv : Nat) (m : SM) : FM := fun ds t => (m (ds.map some ++ List.replicate (N - ds.length) none) t).bind fun o => match o with
  | .rt d t' => some (d, t')
  | .nx _ t' => if lv = 0 then some (.non, t') else none
  | _ => none
theorem fn_ok {P : Program} {w : World} {K : PySem.W.Frag} {mg : Str → Option Value} {base : Heap} {x qual : Str} {st : Stmt} {f : Addr} {fd : FuncData} {N ps : List Str} {j lv : Nat} {sm : SM} {fl0 : List Nat} (F : Fun K x qual st f fd) (S : FnScope N ps (defScope st))
    (h : ∀ (cdv : Value) (A : Around) (outer : List PySem.Env) (s : Shared) (H : Hp) (E : XK) (tp : TP) (B : Hp), Room j (A.deeper (envOfC qual (defScope st) s.heap.objs.size f cdv)) →
      ∃ fl', FSs (cxOf CX0 P w K mg base N qual (defScope st) f cdv A outer s H E).nox tp B lv [] fl0 fl' (defBody st) sm) (hfl0 : fl0 = List.replicate N.length 0 := by rfl) :
    FnOk P w K mg base CX0 (j + 1) f fd ps (spD K ps.length lv (fnM N.length lv sm)) := by
  subst hfl0
  refine F.ok S (fun vs H Q E ⟨tp, t, ds, d, t', h1, h2, h3, h4, h5⟩ => by rw [h3.1, h2]) fun cdv A outer s H vs Q E hr ⟨tp, t, ds, d, t', h1, h2, h3, h4, h5⟩ => ?_
  obtain ⟨fl', hh⟩ := h cdv A outer s H E tp (hid (tpl tp) H) hr
  obtain ⟨o, e1, e2⟩ := bind_some h4
  have hps : ps.length ≤ N.length := by
    have := congrArg List.length S.pre
    rw [List.length_take] at this; omega
  have hvl : vs.length = ds.length := h3.1
  have e0 : ours tp ⟨[], List.replicate N.length []⟩ = tpl tp := by
    unfold ours
    have : (List.replicate N.length ([] : List Addr)).flatten = [] := by simp
    rw [this]; rfl
  have R0 : RelF K tp (hid (tpl tp) H) (List.replicate N.length 0) ⟨[], List.replicate N.length []⟩ H (L2.start N vs) (ds.map some ++ List.replicate (N.length - ds.length) none) t := by
    have sl : (L2.start N vs).length = N.length := by unfold L2.start; simp; omega
    refine ⟨by simp [sl], by simp [sl]; omega, by simp [sl], ?_, h1, by rw [e0]; exact Same.refl _, fun a ha => ?_, fun i F _ h3 => ?_, fun i n' d' F hf hd hF => ?_⟩
    · rw [e0]
      cases tp with
      | none => exact .nil
      | some p =>
        obtain ⟨p, c⟩ := p
        have := (h1 p c rfl).1
        simp [tpl, this]
    · have : (List.replicate N.length ([] : List Addr)).flatten = [] := by simp
      rw [List.nil_append, this] at ha; cases ha
    · have h3' : (List.replicate N.length ([] : List Addr))[i]? = some F := h3
      rw [List.getElem?_replicate] at h3'
      split at h3'
      · cases h3'; rfl
      · cases h3'
    · rw [List.getElem?_replicate] at hf
      have hF' : (List.replicate N.length ([] : List Addr))[i]? = some F := hF
      rw [List.getElem?_replicate] at hF'
      have hlt : i < N.length := by
        by_cases z : i < N.length
        · exact z
        · rw [if_neg z] at hf; cases hf
      rw [if_pos hlt] at hf hF'
      cases hf
      cases hF'
      have hi : i < ds.length := by
        by_cases z : i < ds.length
        · exact z
        · rw [List.getElem?_append_right (by simpa using z), List.getElem?_replicate] at hd
          split at hd <;> cases hd
      rw [List.getElem?_append_left (by simpa using hi), List.getElem?_map] at hd
      have hdi : ds[i]? = some d' := by
        cases e : ds[i]? with
        | none => rw [e] at hd; cases hd
        | some z => rw [e] at hd; cases hd; rfl
      obtain ⟨v, ev, rv⟩ := h3.get hdi
      refine ⟨v, ?_, ?_, rfl⟩
      · unfold L2.start
        rw [List.getElem?_append_left (by simp; omega), List.getElem?_map, ev]; rfl
      · rw [e0]; exact rv
  refine ⟨_, hh, ?_⟩
  refine ⟨⟨[], List.replicate N.length []⟩, _, t, o, R0, e1, ?_⟩
  have fin : ∀ {v : V} {H' : Hp} {d : D} {t' : Tape}, RetB K tp (hid (tpl tp) H) lv d t' v H' → Ret K tp H lv d t' v H' := fun {v H' d t'} r => by
    refine ⟨fun b u q nb => (hid_some (r.base b u (hid_of nb q))).2, r.tape, ?_⟩
    refine r.val.imp fun a ⟨q1, q2⟩ => ?_
    cases e : H a with
    | none => rfl
    | some u => rw [hid_of q2 e] at q1; cases q1
  cases o with
  | rt d1 t1 => cases e2; exact fun v H' r => h5 v H' (fin r)
  | nx ρ1 t1 =>
    simp only at e2
    split at e2
    case isFalse => cases e2
    rename_i hl0
    subst hl0
    cases e2
    exact fun σ' H' Fs' r => h5 .non H' (fin ⟨r.tape, base_in r .refl, .inl ⟨by decide, [], .nil, (fun a ha => nomatch ha), Rp.non, rfl⟩⟩)
  | bk ρ1 t1 => cases e2
  | ct ρ1 t1 => cases e2
end
end FL
set_option maxRecDepth 100000
set_option maxHeartbeats 4000000
noncomputable section
namespace FL
open PySem PySem.Spec PyProof.Rows L2

/-! ### t * k for any k -/
theorem mulOne (l : Addr) (items : Array Value) (n : Nat) (dd : Option Addr) (sl : Array (Option Value)) (x : Int) (u : Tok) (c0 : (decide (x < -(2 ^ 63)) || decide (x ≥ 2 ^ 63)) = false) (c1 : (items.isEmpty || x == 1) = true) :
    Meets (Builtin.«tuple.__mul__» ⟨[.ref l, .int x u], []⟩) (fun _ R s => s.heap.get? l = some { cls := .type "tuple", dict := dd, data := .seq items n, slots := sl } ∧ R (.ok (.ret (Value.ref l))) { s with heap := s.heap, toks := s.toks }) :=
  .of_wp fun prog w A R s h => by
    obtain ⟨hp, g, d, tk, os⟩ := s
    obtain ⟨hl, h⟩ := h
    have f1 := AutoSeq1.idx_int
    have f2 := AutoSeq1.sub_tuple_tuple
    wp_walk using AutoSeq1.wpAny_loadPart' hl
    repeat (first
      | (refine wpAny_ite_false (decide_eq_false (by rw [c0]; exact Bool.false_ne_true)) ?_; wp_walk using AutoSeq1.wpAny_loadPart' hl)
      | (refine wpAny_ite_true (decide_eq_true c1) ?_; wp_walk using AutoSeq1.wpAny_loadPart' hl))
    exact ⟨_, rfl, h⟩
theorem mulNone (l : Addr) (items : Array Value) (n : Nat) (dd : Option Addr) (sl : Array (Option Value)) (x : Int) (u : Tok) (c0 : (decide (x < -(2 ^ 63)) || decide (x ≥ 2 ^ 63)) = false) (c1 : (items.isEmpty || x == 1) = false) (c2 : (decide (x ≤ 0) || items.isEmpty) = true) :
    Meets (Builtin.«tuple.__mul__» ⟨[.ref l, .int x u], []⟩) (fun _ R s => s.heap.get? l = some { cls := .type "tuple", dict := dd, data := .seq items n, slots := sl } ∧
      R (.ok (.ret (Value.ref s.heap.objs.size))) { s with heap := s.heap.push { cls := Value.type "tuple", data := Data.seq #[] }, toks := s.toks }) :=
  .of_wp fun prog w A R s h => by
    obtain ⟨hp, g, d, tk, os⟩ := s
    obtain ⟨hl, h⟩ := h
    have f1 := AutoSeq1.idx_int
    have f2 := AutoSeq1.sub_tuple_tuple
    wp_walk using AutoSeq1.wpAny_loadPart' hl
    repeat (first
      | (refine wpAny_ite_false (decide_eq_false (by rw [c0]; exact Bool.false_ne_true)) ?_; wp_walk using AutoSeq1.wpAny_loadPart' hl)
      | (refine wpAny_ite_false (decide_eq_false (by rw [c1]; exact Bool.false_ne_true)) ?_; wp_walk using AutoSeq1.wpAny_loadPart' hl)
      | (refine wpAny_ite_true (decide_eq_true c2) ?_; wp_walk using AutoSeq1.wpAny_loadPart' hl))
    exact ⟨_, rfl, h⟩
def rRepLow (K : PySem.W.Frag) : R2 := fun x y H Q => ∃ l k xs, x = .ref l ∧ y = .int k ∧ SqT K H l xs ∧ -1000 ≤ k ∧ k ≤ 1000 ∧ (xs = [] ∨ k = 1 → Q (.ref l) H) ∧ (xs ≠ [] → k ≤ 0 → ∀ p, H p = none → Q (.ref p) (upd H p (.tup []))) ∧ (xs = [] ∨ k ≤ 1)
section
variable {X : Cx}
theorem op_repLow : OpR X (binaryOp .Mult) (rRepLow X.K) := by
  intro pins s σ H x y v u Q I rx ry h
  obtain ⟨l, k, xs, rfl, rfl, hT, h1, h2, q1, q2, q3⟩ := h
  cases rx
  obtain ⟨t, rfl⟩ := ry
  obtain ⟨its, r, ⟨⟨cls, dd, data, sl⟩, ho, hc, n, hd⟩, hs⟩ := I.tuple hT
  simp only at hc hd
  subst hc hd
  have c0 : (decide (k < -(2 ^ 63)) || decide (k ≥ 2 ^ 63)) = false := by
    rw [decide_eq_false (by omega), decide_eq_false (by omega)]; rfl
  have hem : its.toArray.isEmpty = decide (xs = []) := by
    have hl := r.length
    cases its with
    | nil => rw [List.eq_nil_of_length_eq_zero hl]; rfl
    | cons a b =>
      rw [decide_eq_false fun z => by rw [z] at hl; simp at hl]; rfl
  refine wpAny_binaryOp_repeat_ref (T := "tuple") (U := "int") (by decide) ⟨_, ho, rfl⟩ (fun s' => typeIs_int s' k t) noFill_tuple_mul F.fills_int_mul F.slot_int_rmul repeat_tuple F.slot_int_index.lookup
    (call_meets F.slot_int_rmul (typeIs_int s k t) F.entry_int_rmul (F.args_int_rmul_2 _ _) (int_rmul_tuple k t l its.toArray n dd sl) ⟨ho, rfl, ⟨_, ho, rfl⟩, ?_⟩)
  by_cases hc : xs = [] ∨ k = 1
  · have c1 : (its.toArray.isEmpty || k == 1) = true := by
      rw [hem]
      rcases hc with z | z
      · rw [decide_eq_true z]; rfl
      · rw [z]; simp
    exact call_meets F.slot_tuple_mul ⟨_, ho, rfl⟩ F.entry_tuple_mul (F.args_tuple_mul_2 _ _) (mulOne l its.toArray n dd sl k t c0 c1) ⟨ho, ⟨.ref l, H, I, rfl, q1 hc⟩⟩
  · have hx : xs ≠ [] := fun z => hc (.inl z)
    have hk1 : k ≠ 1 := fun z => hc (.inr z)
    have hk : k ≤ 0 := by
      rcases q3 with z | z
      · exact absurd z hx
      · omega
    have c1 : (its.toArray.isEmpty || k == 1) = false := by
      rw [hem, decide_eq_false hx, Bool.false_or]
      exact beq_eq_false_iff_ne.mpr hk1
    have c2 : (decide (k ≤ 0) || its.toArray.isEmpty) = true := by rw [decide_eq_true hk]; rfl
    refine call_meets F.slot_tuple_mul ⟨_, ho, rfl⟩ F.entry_tuple_mul (F.args_tuple_mul_2 _ _) (mulNone l its.toArray n dd sl k t c0 c1 c2) ⟨ho, ?_⟩
    refine ⟨.ref s.heap.objs.size, _, I.laid (t' := s.toks) (o := .tup []) (fun b ob q => Heap.get?_push_of_some _ q) (Nat.le_refl _) ?_, rfl, q2 hx hk _ (I.hok.fresh (Nat.le_refl _))⟩
    exact ⟨Nat.zero_le _, [], .nil, IsTup.new _ _⟩
end

/-! ### the operators of ints, tuples, texts, lists -/
def Sm (i : Int) : Prop := i.natAbs < 2 ^ 4000
noncomputable instance (i : Int) : Decidable (Sm i) := Classical.propDecidable _
theorem Sm.of {i : Int} (h : i.natAbs < 2 ^ 200) : Sm i := Nat.lt_of_lt_of_le h (Nat.pow_le_pow_right (by decide) (by decide))
theorem Sm.mul {i j : Int} (h : Sm i) (g : Sm j) : CMulW i j := wide_mul h g (by decide) (by decide) (by decide)
theorem Sm.div {i j : Int} (h : 0 < j) (g : Sm j) : CDivW i j := wide_div h g (by decide) (by decide)
noncomputable def oAdd (x y : D) : Option D := match x, y with
  | .int i, .int j => some (.int (i + j))
  | .tup l, .tup m => if small (l ++ m) then some (.tup (l ++ m)) else none
  | .str a, .str b => if sml (a.length + b.length) = true then some (.str (a ++ b)) else none
  | _, _ => none
def rAddA (K : PySem.W.Frag) : R2 := fun x y H Q => rI0 (fun i j => .int (i + j)) x y H Q ∨ rCatA K x y H Q ∨ (∃ i j, x = .str i ∧ y = .str j ∧ i.length + j.length ≤ sizeLine ∧ Q (.str (i ++ j)) H)
section
variable {X : Cx} {K : PySem.W.Frag} {tp : TP} {ka kb : Kd}
theorem op_addA : OpR X (binaryOp .Add) (rAddA X.K) := OpR.or op_add (OpR.or op_catA op_add_str)
theorem od_add : OpD K tp (rAddA K) .l .l (.o 0) oAdd := fun O H x y dx dy d t Q ok ta ix iy h q => by
  unfold oAdd at h
  split at h
  · rename_i i j
    cases h
    exact .inl ⟨i, j, (Lv.all ix).int_inv, (Lv.all iy).int_inv, q _ _ (.sc ta rfl)⟩
  · rename_i l m
    split at h
    case isFalse => cases h
    rename_i hs
    cases h
    have ix' := Lv.tup ix
    have iy' := Lv.tup iy
    obtain ⟨a, xs, rfl, hx, hr⟩ := ix'.tupL
    obtain ⟨b, ys, rfl, hy, hr2⟩ := iy'.tupL
    refine .inr (.inl ⟨a, b, xs, ys, rfl, rfl, Same.seqT hid_sub hx, Same.seqT hid_sub hy, ?_, fun z => ?_, fun z1 z2 => ?_, fun z1 z2 p hp => ?_⟩)
    · rw [hr.1, hr2.1, ← List.length_append]; exact small_ok hs
    · have : l = [] := List.eq_nil_of_length_eq_zero (by rw [← hr.1, z]; rfl)
      subst this
      exact q _ _ (.mk0 .refl ta iy')
    · have : m = [] := List.eq_nil_of_length_eq_zero (by rw [← hr2.1, z2]; rfl)
      subst this
      rw [List.append_nil] at q
      exact q _ _ (.mk0 .refl ta ix')
    · exact q _ _ (.tupN ok ta hp (hr.append hr2))
  · rename_i a b
    split at h
    case isFalse => cases h
    rename_i hs
    cases h
    exact .inr (.inr ⟨a, b, (Lv.all ix).str_inv, (Lv.all iy).str_inv, Nat.le_trans (of_sml hs) (by decide), q _ _ (.sc ta rfl)⟩)
  · cases h
/-- list + list -/
def oCat (x y : D) : Option D := match x, y with
  | .lst l, .lst m => if small (l ++ m) then some (.lst (l ++ m)) else none
  | _, _ => none
theorem od_cat : OpD K tp rCat .l .l (.o 1) oCat := fun O H x y dx dy d t Q ok ta ix iy h q => by
  unfold oCat at h
  split at h
  case h_2 => cases h
  split at h
  case isFalse => cases h
  rename_i hs
  cases h
  obtain ⟨a, xs, rfl, hx, hr⟩ := Lv.lst ix
  obtain ⟨b, ys, rfl, hy, hr2⟩ := Lv.lst iy
  exact ⟨a, b, xs, ys, rfl, rfl, hx, hy, by rw [hr.1, hr2.1, ← List.length_append]; exact small_ok hs, fun p hp => q _ _ (.lstN ok ta hp (hr.append hr2))⟩
def oSub (x y : D) : Option D := oII (fun _ _ => True) (fun i j => .int (i - j)) x y
theorem od_sub : OpD K tp (rI0 fun i j => .int (i - j)) ka kb (.o 0) oSub := od_ii0 fun _ _ => rfl
/-- ints, and a tuple as often as told -/
def rep1 (k : Int) (l : List D) : Bool := @decide (-1000 ≤ k ∧ k ≤ 1000 ∧ l.length ≤ 1000) (Classical.propDecidable _)
theorem of_rep1 {k : Int} {l : List D} (h : rep1 k l = true) : -1000 ≤ k ∧ k ≤ 1000 ∧ l.length ≤ 1000 := @of_decide_eq_true _ (Classical.propDecidable _) h
def repL (k : Int) (l : List D) : List D := (List.replicate k.toNat l).flatten
noncomputable def oMul (x y : D) : Option D := match x, y with
  | .int i, .int j => if Sm i ∧ Sm j then some (.int (i * j)) else none
  | .tup l, .int k => if rep1 k l = true then some (.tup (repL k l)) else none
  | _, _ => none
def rMulA (K : PySem.W.Frag) : R2 := fun x y H Q => rI CMulW (fun i j => .int (i * j)) x y H Q ∨ rRepT K x y H Q ∨ rRepLow K x y H Q
theorem op_mulA : OpR X (binaryOp .Mult) (rMulA X.K) := OpR.or op_mulW (OpR.or op_repT op_repLow)
theorem RpL.rep {H : Hp} {xs : List V} {ds : List D} (r : RpL K tp H xs ds) : ∀ n : Nat, RpL K tp H (List.replicate n xs).flatten (List.replicate n ds).flatten
  | 0 => by simpa using RpL.nil
  | n + 1 => by
    rw [List.replicate_succ, List.replicate_succ, List.flatten_cons, List.flatten_cons]
    exact r.append (RpL.rep r n)
theorem od_mul : OpD K tp (rMulA K) .l kb (.o 0) oMul := fun O H x y dx dy d t Q ok ta ix iy h q => by
  unfold oMul at h
  split at h
  · rename_i i j
    split at h
    case isFalse => cases h
    rename_i hs
    cases h
    exact .inl ⟨i, j, (Lv.all ix).int_inv, iy.all.int_inv, hs.1.mul hs.2, q _ _ (.sc ta rfl)⟩
  · rename_i l k
    split at h
    case isFalse => cases h
    rename_i hs
    replace hs := of_rep1 hs
    cases h
    have ix' := Lv.tup ix
    obtain ⟨a, xs, rfl, hx, hr⟩ := ix'.tupL
    by_cases hc : xs = [] ∨ k ≤ 1
    · refine .inr (.inr ⟨a, k, xs, rfl, iy.all.int_inv, Same.seqT hid_sub hx, hs.1, hs.2.1, fun z => ?_, fun z1 z2 p hp => ?_, hc⟩)
      · have : repL k l = l := by
          unfold repL
          rcases z with z | z
          · have : l = [] := List.eq_nil_of_length_eq_zero (by rw [← hr.1, z]; rfl)
            subst this; simp
          · subst z; simp
        rw [this] at q
        exact q _ _ (.mk0 .refl ta ix')
      · have : repL k l = [] := by
          unfold repL
          rw [show k.toNat = 0 by omega]; rfl
        rw [this] at q
        exact q _ _ (.tupN ok ta hp .nil)
    · have h1 : xs ≠ [] := fun z => hc (.inl z)
      have h2 : 2 ≤ k := by
        by_cases z : k ≤ 1
        · exact absurd (.inr z) hc
        · omega
      exact .inr (.inl ⟨a, k, xs, rfl, iy.all.int_inv, Same.seqT hid_sub hx, h1, h2, hs.2.1, by rw [hr.1]; exact hs.2.2, fun p hp => q _ _ (.tupN ok ta hp (hr.rep k.toNat))⟩)
  · cases h
/-- list * int -/
def oRep (x y : D) : Option D := match x, y with
  | .lst l, .int k => if rep1 k l = true then some (.lst (repL k l)) else none
  | _, _ => none
theorem od_rep : OpD K tp rRep .l kb (.o 1) oRep := fun O H x y dx dy d t Q ok ta ix iy h q => by
  unfold oRep at h
  split at h
  case h_2 => cases h
  rename_i l k
  split at h
  case isFalse => cases h
  rename_i hs
  replace hs := of_rep1 hs
  cases h
  obtain ⟨a, xs, rfl, hx, hr⟩ := Lv.lst ix
  refine ⟨a, k, xs, rfl, iy.all.int_inv, hx, by omega, by omega, ?_, fun p hp => q _ _ (.lstN ok ta hp (hr.rep k.toNat))⟩
  rw [hr.1]
  exact Nat.le_trans (Nat.mul_le_mul hs.2.2 (show k.toNat ≤ 1000 by omega)) (by decide)
/-- small, not 0 -/
def divN (j : Int) : Bool := @decide (j ≠ 0 ∧ j.natAbs < 1073741824) (Classical.propDecidable _)
theorem of_divN {j : Int} (h : divN j = true) : j ≠ 0 ∧ j.natAbs < 1073741824 := @of_decide_eq_true _ (Classical.propDecidable _) h
noncomputable def oDiv (x y : D) : Option D := match x, y with
  | .int i, .int j => if 0 < j ∧ Sm j then some (.int (i / j)) else if divN j = true then some (.int (i.fdiv j)) else none
  | _, _ => none
def rDivA : R2 := fun x y H Q => rI CDivW (fun i j => .int (i / j)) x y H Q ∨ rI CDivN (fun i j => .int (i.fdiv j)) x y H Q
theorem op_divA : OpR X (binaryOp .FloorDiv) rDivA := OpR.or op_fdivW op_fdivN
theorem od_div : OpD K tp rDivA ka kb (.o 0) oDiv := fun O H x y dx dy d t Q ok ta ix iy h q => by
  unfold oDiv at h
  split at h
  case h_2 => cases h
  rename_i i j
  split at h
  · rename_i hs
    cases h
    exact .inl ⟨i, j, ix.all.int_inv, iy.all.int_inv, Sm.div hs.1 hs.2, q _ _ (.sc ta rfl)⟩
  · split at h
    case isFalse => cases h
    rename_i hs
    cases h
    exact .inr ⟨i, j, ix.all.int_inv, iy.all.int_inv, of_divN hs, q _ _ (.sc ta rfl)⟩
def oMod (x y : D) : Option D := oII (fun _ j => 0 < j) (fun i j => .int (i % j)) x y
theorem od_mod : OpD K tp (rI (fun _ j => 0 < j) fun i j => .int (i % j)) ka kb (.o 0) oMod := od_ii (fun _ _ => rfl) fun _ _ h => h
def oLt (x y : D) : Option D := oII (fun _ _ => True) (fun i j => .bl (decide (i < j))) x y
def oLe (x y : D) : Option D := oII (fun _ _ => True) (fun i j => .bl (decide (i ≤ j))) x y
def oGt (x y : D) : Option D := oII (fun _ _ => True) (fun i j => .bl (decide (j < i))) x y
def oGe (x y : D) : Option D := oII (fun _ _ => True) (fun i j => .bl (decide (j ≤ i))) x y
theorem od_lt : OpD K tp (rI0 fun i j => .bl (decide (i < j))) ka kb (.o 0) oLt := od_ii0 fun _ _ => rfl
theorem od_le : OpD K tp (rI0 fun i j => .bl (decide (i ≤ j))) ka kb (.o 0) oLe := od_ii0 fun _ _ => rfl
theorem od_gt : OpD K tp (rI0 fun i j => .bl (decide (j < i))) ka kb (.o 0) oGt := od_ii0 fun _ _ => rfl
theorem od_ge : OpD K tp (rI0 fun i j => .bl (decide (j ≤ i))) ka kb (.o 0) oGe := od_ii0 fun _ _ => rfl
def isN : D → Bool
  | .non => true
  | _ => false
theorem Rp.isN {H : Hp} {v : V} {d : D} (h : Rp K tp H v d) : decide (v = .non) = FL.isN d := by
  cases h <;> rfl
/-- is None; is True, is False -/
def oIs (x y : D) : Option D := match y with
  | .non => some (.bl (isN x))
  | .bl b => match x with
    | .bl a => some (.bl (decide (a = b)))
    | _ => none
  | _ => none
def oIsNot (x y : D) : Option D := match y with
  | .non => some (.bl (!isN x))
  | .bl b => match x with
    | .bl a => some (.bl (!decide (a = b)))
    | _ => none
  | _ => none
def rIsA : R2 := fun x y H Q => (y = .non ∧ Q (.bl (decide (x = .non))) H) ∨ ∃ a b, x = .bl a ∧ y = .bl b ∧ Q (.bl (decide (a = b))) H
def rIsNotA : R2 := fun x y H Q => (y = .non ∧ Q (.bl (!decide (x = .non))) H) ∨ ∃ a b, x = .bl a ∧ y = .bl b ∧ Q (.bl (!decide (a = b))) H
theorem op_isA : OpR X (compareOp .Is) rIsA := OpR.or op_isN op_is_bl
theorem op_isNotA : OpR X (compareOp .IsNot) rIsNotA := OpR.or op_notN op_isnot_bl
theorem od_is : OpD K tp rIsA ka kb (.o 0) oIs := fun O H x y dx dy d t Q ok ta ix iy h q => by
  unfold oIs at h
  split at h
  · cases h
    refine .inl ⟨iy.all.non_inv, ?_⟩
    rw [ix.all.isN]
    exact q _ _ (.sc ta rfl)
  · rename_i b
    split at h
    case h_2 => cases h
    rename_i a
    cases h
    exact .inr ⟨a, b, ix.all.bl_inv, iy.all.bl_inv, q _ _ (.sc ta rfl)⟩
  · cases h
theorem od_isNot : OpD K tp rIsNotA ka kb (.o 0) oIsNot := fun O H x y dx dy d t Q ok ta ix iy h q => by
  unfold oIsNot at h
  split at h
  · cases h
    refine .inl ⟨iy.all.non_inv, ?_⟩
    rw [ix.all.isN]
    exact q _ _ (.sc ta rfl)
  · rename_i b
    split at h
    case h_2 => cases h
    rename_i a
    cases h
    exact .inr ⟨a, b, ix.all.bl_inv, iy.all.bl_inv, q _ _ (.sc ta rfl)⟩
  · cases h
end
section
variable {X : Cx} {tp : TP} {B : Hp} {fl : List Nat} {e : Expr} {m : EM} {pos p1 p2 p3 : Pos} {kc : Nat}
/-- xs[::-1] of a list -/
theorem fe_rev (h : FE X tp B fl e .l m) : FE X tp B fl (.Subscript e (.Slice none none (some (.UnaryOp .USub (.Constant (.int 1) kc p1) p2)) p3) pos) (.o 1) (mUn oRev m) := PE.imp (pe_revL h) fun σ H Q ⟨Fs, ρ, t, d, t', R, hm, q⟩ => by
  obtain ⟨x, h1, h2⟩ := mUn_some hm
  refine ⟨Fs, ρ, t, x, t', R, h1, fun v H1 r => ?_⟩
  have R1 := R.step r.same r.tape
  unfold oRev at h2
  split at h2
  · rename_i l
    cases h2
    obtain ⟨a, xs, rfl, hs, hr⟩ := Lv.lst r.val
    refine ⟨a, xs, rfl, .inl (.inl hs), fun p hp => q _ _ (.trans r.same r.tape (.lstN R1.ok r.tape hp ⟨by simp [hr.1], fun i v d h1 h2 => ?_⟩))⟩
    have hi : i < xs.length := by have := (List.getElem?_eq_some_iff.mp h1).1; simpa using this
    have hi2 : i < l.length := by rw [← hr.1]; exact hi
    rw [List.getElem?_reverse hi] at h1
    rw [List.getElem?_reverse hi2, ← hr.1] at h2
    exact hr.2 _ v d h1 h2
  · cases h2
/-- a global constant of the module, as data -/
def GC (K : PySem.W.Frag) (mg : Str → Option Value) (x : Str) (d : D) : Prop := ∃ v u, mg x = some u ∧ RelV v u ∧ ∀ tp H, Rp K tp H v d
theorem fe_gc {x : Str} {d : D} (h : GC X.K X.mg x d) (hg : Gl X x) (hd : (x == ("__debug__" : Str)) = false := by decide) : FE X tp B fl (.Name x pos) (.o 0) (mC d) := by
  obtain ⟨v, u, h1, h2, h3⟩ := h
  exact fe_glob hg h1 h2 (h3 tp) hd
/-- [] for a list of lists -/
theorem fe_nil {n : Nat} : FE X tp B fl (.List [] pos) (.o (n + 1)) (mLst mNil) := PE.imp (pe_lst pa_nil) fun σ H Q ⟨Fs, ρ, t, d, t', R, hm, q⟩ => by
  obtain ⟨ds, h1, hs, rfl⟩ := mLst_some hm
  cases h1
  refine ⟨Nat.zero_le _, fun p hp => q _ _ ⟨.new hp, R.tape.new hp, [p], by simp, fun a ha => by rw [List.mem_singleton.mp ha]; exact hp, p, [], [], [], rfl, rfl, upd_same, rfl, rfl, rfl, fun i v d F h1 => by simp at h1⟩⟩
end
theorem boot_len' : bootBuiltins "len" = some (.builtin "len") := by decide +kernel
theorem boot_abs' : bootBuiltins "abs" = some (.builtin "abs") := by decide +kernel
theorem boot_all' : bootBuiltins "all" = some (.builtin "all") := by decide +kernel
theorem boot_any' : bootBuiltins "any" = some (.builtin "any") := by decide +kernel
theorem boot_sum' : bootBuiltins "sum" = some (.builtin "sum") := by decide +kernel
theorem boot_int' : bootBuiltins "int" = some (.type "int") := by decide +kernel
theorem boot_bool' : bootBuiltins "bool" = some (.type "bool") := by decide +kernel
theorem boot_str' : bootBuiltins "str" = some (.type "str") := by decide +kernel
theorem boot_tuple' : bootBuiltins "tuple" = some (.type "tuple") := by decide +kernel
theorem boot_list' : bootBuiltins "list" = some (.type "list") := by decide +kernel
end FL
set_option maxRecDepth 100000
set_option maxHeartbeats 4000000
noncomputable section
namespace FL
open PySem PySem.Spec PyProof.Rows L2

/-! ### the law's tape -/
def dropZ : List Int → List Int
  | [] => []
  | x :: r => if x = 0 then dropZ r else x :: r
def draw (t : Tape) (m : Int) : Int × Tape := match dropZ t.cells with
  | x :: r => (x % m, ⟨x / m :: r, t.seed⟩)
  | [] => (((t.seed * 48271 + 12345) % 2147483647) / 64 % m, ⟨[], (t.seed * 48271 + 12345) % 2147483647⟩)
noncomputable def F_draw : FM := fun ds t => match ds with
  | [.tape, .int m] => if 0 < m ∧ Sm m ∧ Sm t.seed then some (.int (draw t m).1, (draw t m).2) else none
  | _ => none
def seedOf : Int → List Int → Int
  | s, [] => s
  | s, x :: r => seedOf ((s * 31 + x) % 1000003) r
def absI (i : Int) : Int := if i < 0 then -i else i
def tapeOf (l : List Int) : Tape := ⟨l.map absI, seedOf 7 l + 1⟩
def tDraw2 (K : PySem.W.Frag) : TS :=
  tSeq (tIfS (tB (tGt (tCB (rLenA K) (tCons (tVar 2) tNil)) (tC (.int 0))))
    (tSeq (tAsg (tOp (rIx K) (tVar 2) (tC (.int 0))) (gName 3)) (tSeq (tAsg (tOp (rI CDivW fun i j => .int (i / j)) (tVar 3) (tVar 1)) (gSub (tVar 2) (tC (.int 0)) rSetL))
      (tRet (tOp (rI (fun _ j => 0 < j) fun i j => .int (i % j)) (tCB (fun xs H Q => (∃ i, xs = [.int i] ∧ Q (.int i) H) ∨ ∃ k, xs = [.bl k] ∧ Q (.int (if k then 1 else 0)) H) (tCons (tVar 3) tNil)) (tVar 1)))))
    tNext)
  (tSeq (tAsg (tOp (rI (fun _ j => 0 < j) fun i j => .int (i % j)) (tCB (fun xs H Q => (∃ i, xs = [.int i] ∧ Q (.int i) H) ∨ ∃ k, xs = [.bl k] ∧ Q (.int (if k then 1 else 0)) H) (tCons (tOp (rI0 fun i j => .int (i + j)) (tOp (rI CMulW fun i j => .int (i * j)) (tOp (rIx K) (tVar 0) (tC (.int 1))) (tC (.int 48271))) (tC (.int 12345))) tNil)) (tC (.int 2147483647))) (gSub (tVar 0) (tC (.int 1)) rSetL))
    (tRet (tOp (rI (fun _ j => 0 < j) fun i j => .int (i % j)) (tCB (fun xs H Q => (∃ i, xs = [.int i] ∧ Q (.int i) H) ∨ ∃ k, xs = [.bl k] ∧ Q (.int (if k then 1 else 0)) H) (tCons (tOp (rI CDivW fun i j => .int (i / j)) (tOp (rIx K) (tVar 0) (tC (.int 1))) (tC (.int 64))) tNil)) (tVar 1))))
def tDraw (K : PySem.W.Frag) : TS :=
  tSeq (tAsg (tOp (rIx K) (tVar 0) (tC (.int 0))) (gName 2))
  (tSeq (tWhile (tAnd (tB (tGt (tCB (rLenA K) (tCons (tVar 2) tNil)) (tC (.int 0)))) (tB (tEqI (tOp (rIx K) (tVar 2) (tC (.int 0))) (tC (.int 0))))) (tDrop (tBM K "list" rPopAt (tVar 2) (tCons (tC (.int 0)) tNil))))
  (tDraw2 K))
theorem atI0 {α : Type} {x : α} {r : List α} : atI (x :: r) 0 = some x := by
  show (ixN (r.length + 1) 0).bind _ = _
  unfold ixN
  rw [if_pos (by decide), if_pos (by omega)]; rfl
theorem ixN0 {n : Nat} : ixN (n + 1) 0 = some 0 := by
  unfold ixN
  rw [if_pos (by decide), if_pos (by omega)]; rfl
theorem seq0 {n : Nat} : seqIndex? 0 (n + 1) = some 0 := (ixN_seq (ixN0 (n := n))).1

theorem ta_upd {a c : Addr} {H' : Hp} {t' : Tape} (h : a ≠ c) (ha : H' a = some (.lst [.ref c, .int t'.seed])) (hc : H' c = some (.lst (t'.cells.map V.int))) : TapeAt (some (a, c)) H' t' := fun a' c' e => by
  cases e; exact ⟨h, ha, hc⟩
theorem sx_a {a c : Addr} {H H' : Hp} {o : HO} (s : SameX (some (a, c)) H H') : SameX (some (a, c)) H (upd H' a o) := fun b u h n => by
  rw [upd_ne fun z => n (by rw [z]; exact List.mem_cons_self)]; exact s b u h n
theorem sx_c {a c : Addr} {H H' : Hp} {o : HO} (s : SameX (some (a, c)) H H') : SameX (some (a, c)) H (upd H' c o) := fun b u h n => by
  rw [upd_ne fun z => n (by rw [z]; exact List.mem_cons_of_mem _ List.mem_cons_self)]; exact s b u h n
theorem draw_run {K : PySem.W.Frag} {Z : Ends} {H : Hp} {vs : List V} {E : XK} (h : spD K 2 0 F_draw vs H Z.rt E) {N : List Str} (hN : N.length = 4) : tDraw K Z (L2.start N vs) H := by
  obtain ⟨tp, t, ds, d, t', ta, hl, hr, hf, q⟩ := h
  unfold F_draw at hf
  split at hf
  case h_2 => cases hf
  rename_i m
  split at hf
  case isFalse => cases hf
  rename_i hc
  obtain ⟨hm, hsm, hss⟩ := hc
  have e2 : ∃ a c, tp = some (a, c) ∧ vs = [.ref a, .int m] := by
    have hvl : vs.length = 2 := hr.1
    match vs, hvl with
    | [v, w], _ =>
      have r0 := hr.head
      have r1 := hr.tail.head.int_inv
      subst r1
      cases r0 with
      | tape e => exact ⟨_, _, e, rfl⟩
  obtain ⟨a, c, rfl, rfl⟩ := e2
  obtain ⟨nac, ha, hcc⟩ := ta a c rfl
  have st : L2.start N [V.ref a, V.int m] = [some (.ref a), some (.int m), none, none] := by
    unfold L2.start
    rw [hN]; rfl
  rw [st]
  have fin : ∀ (i : Int) (t2 : Tape) (H' : Hp), draw t m = (i, t2) → TapeAt (some (a, c)) H' t2 → SameX (some (a, c)) H H' → Z.rt (.int i) H' := fun i t2 H' e ta' s => by
    rw [e] at hf
    cases hf
    exact q (.int i) H' ⟨s, ta', .inl ⟨by decide, [], .nil, (fun a ha => nomatch ha), Rp.int _, rfl⟩⟩
  refine ⟨.ref a, rfl, .inl ⟨a, [.ref c, .int t.seed], 0, .ref c, rfl, rfl, .inl (.inl ha), atI0, ?_⟩⟩
  refine ⟨fun n σ H' => ∃ cs : List Int, n = cs.length ∧ σ = [some (.ref a), some (.int m), some (.ref c), none] ∧ H' c = some (.lst (cs.map V.int)) ∧ H' a = some (.lst [.ref c, .int t.seed]) ∧ SameX (some (a, c)) H H' ∧ dropZ cs = dropZ t.cells, ⟨_, t.cells, rfl, rfl, hcc, ha, .refl, rfl⟩, ?_⟩
  rintro n σ H' ⟨cs, rfl, rfl, h1, h2, sx, hd⟩
  refine ⟨.ref c, rfl, .inl ⟨c, cs.map V.int, rfl, .inl (.inl (.inl h1)), ?_⟩⟩
  refine ⟨_, _, rfl, rfl, _, rfl, ?_⟩
  -- behind the loop
  have rest : (dropZ cs = cs) → tDraw2 K Z [some (.ref a), some (.int m), some (.ref c), none] H' := fun hz => by
    refine ⟨.ref c, rfl, .inl ⟨c, cs.map V.int, rfl, .inl (.inl (.inl h1)), ?_⟩⟩
    refine ⟨_, _, rfl, rfl, _, rfl, ?_⟩
    cases cs with
    | cons x r =>
      have hdr : draw t m = (x % m, ⟨x / m :: r, t.seed⟩) := by unfold draw; rw [← hd, hz]
      have hp : (decide ((0 : Int) < (((x :: r).map V.int).length : Nat))) = true := decide_eq_true (by simp only [List.map_cons, List.length_cons]; omega)
      rw [if_pos hp]
      refine ⟨.ref c, rfl, .inl ⟨c, (x :: r).map V.int, 0, .int x, rfl, rfl, .inl (.inl h1), atI0, ?_⟩⟩
      refine ⟨.int x, rfl, .int m, rfl, x, m, rfl, rfl, Sm.div hm hsm, ?_⟩
      refine ⟨.ref c, rfl, c, (x :: r).map V.int, 0, 0, rfl, rfl, h1, ixN0, ?_⟩
      refine ⟨.int x, rfl, .inl ⟨x, rfl, .int m, rfl, x, m, rfl, rfl, hm, ?_⟩⟩
      refine fin _ _ _ hdr (ta_upd nac ?_ upd_same) (sx_c sx)
      rw [upd_ne nac]; exact h2
    | nil =>
      have hdr : draw t m = (((t.seed * 48271 + 12345) % 2147483647) / 64 % m, ⟨[], (t.seed * 48271 + 12345) % 2147483647⟩) := by unfold draw; rw [← hd, hz]
      rw [if_neg (show ¬ ((fun i j : Int => decide (j < i)) ((([] : List Int).map V.int).length : Nat) 0 = true) from by decide)]
      refine ⟨.ref a, rfl, .inl ⟨a, [.ref c, .int t.seed], 1, .int t.seed, rfl, rfl, .inl (.inl h2), rfl, ?_⟩⟩
      refine ⟨t.seed, 48271, rfl, rfl, Sm.mul hss (Sm.of (by decide)), ?_⟩
      refine ⟨_, 12345, rfl, rfl, .inl ⟨_, rfl, ?_⟩⟩
      refine ⟨_, 2147483647, rfl, rfl, (by decide : (0 : Int) < 2147483647), ?_⟩
      refine ⟨.ref a, rfl, a, [.ref c, .int t.seed], 1, 1, rfl, rfl, h2, rfl, ?_⟩
      refine ⟨.ref a, rfl, .inl ⟨a, [.ref c, .int ((t.seed * 48271 + 12345) % 2147483647)], 1, .int ((t.seed * 48271 + 12345) % 2147483647), rfl, rfl, .inl (.inl upd_same), rfl, ?_⟩⟩
      refine ⟨_, 64, rfl, rfl, Sm.div (by decide) (Sm.of (by decide)), .inl ⟨_, rfl, .int m, rfl, _, m, rfl, rfl, hm, ?_⟩⟩
      refine fin _ _ _ hdr (ta_upd nac upd_same ?_) (sx_a sx)
      rw [upd_ne (Ne.symm nac)]; exact h1
  cases cs with
  | nil =>
    exact rest rfl
  | cons x r =>
    have hp : (decide ((0 : Int) < (((x :: r).map V.int).length : Nat))) = true := decide_eq_true (by simp only [List.map_cons, List.length_cons]; omega)
    simp only [hp, if_true]
    refine ⟨.ref c, rfl, .inl ⟨c, (x :: r).map V.int, 0, .int x, rfl, rfl, .inl (.inl h1), atI0, ?_⟩⟩
    refine ⟨x, 0, rfl, rfl, _, rfl, ?_⟩
    by_cases hx : x = 0
    · simp only [decide_eq_true hx, if_true]
      refine ⟨fun σ' H2 => ∃ cs' : List Int, cs'.length < (x :: r).length ∧ σ' = [some (.ref a), some (.int m), some (.ref c), none] ∧ H2 c = some (.lst (cs'.map V.int)) ∧ H2 a = some (.lst [.ref c, .int t.seed]) ∧ SameX (some (a, c)) H H2 ∧ dropZ cs' = dropZ t.cells, fun σ' H2 ⟨cs', e1, e2, e3, e4, e5, e6⟩ => ⟨_, e1, cs', rfl, e2, e3, e4, e5, e6⟩, ?_⟩
      refine ⟨.ref c, rfl, .inl ⟨rfl, _, .inl (.inl h1)⟩, c, (x :: r).map V.int, 0, 0, .int x, rfl, rfl, h1, by decide, by decide, ?_, rfl, ?_⟩
      · rw [List.length_map]; exact seq0
      · refine ⟨r, Nat.lt_succ_self _, rfl, by rw [upd_same]; rfl, by rw [upd_ne nac]; exact h2, sx_c sx, ?_⟩
        rw [← hd]
        unfold dropZ
        rw [if_pos hx]
        cases r <;> rfl
    · simp only [decide_eq_false hx, Bool.false_eq_true, if_false]
      refine rest ?_
      unfold dropZ
      rw [if_neg hx]

/-! the law's tape from the script -/
def spTape (K : PySem.W.Frag) : Sp := fun vs H Q _ => ∃ (a : Addr) (ns : List Int), vs = [.ref a] ∧ SqL K H a (ns.map V.int) ∧ ns.length ≤ 1000 ∧ ∀ p c H', SameX none H H' → H p = none → H c = none → TapeAt (some (p, c)) H' (tapeOf ns) → Q (.ref p) H'
def rInt1 : List V → Hp → VK → Prop := fun xs H Q => (∃ i, xs = [.int i] ∧ Q (.int i) H) ∨ ∃ k, xs = [.bl k] ∧ Q (.int (if k then 1 else 0)) H
def rAbs1 : List V → Hp → VK → Prop := fun xs H Q => ∃ i, xs = [.int i] ∧ Q (.int (if i < 0 then -i else i)) H
def tTape (K : PySem.W.Frag) : TS :=
  tSeq (tAsg (tC (.int 7)) (gName 1))
  (tSeq (tFor (iList K (tVar 0)) (gName 2) (tAsg (tOp (rI (fun _ j => 0 < j) fun i j => .int (i % j)) (tCB rInt1 (tCons (tOp (rI0 fun i j => .int (i + j)) (tOp (rI CMulW fun i j => .int (i * j)) (tVar 1) (tC (.int 31))) (tVar 2)) tNil)) (tC (.int 1000003))) (gName 1)))
  (tRet (tLst (tCons (tLc (iList K (tVar 0)) (gName 2) tYes (tCB rAbs1 (tCons (tCB rInt1 (tCons (tVar 2) tNil)) tNil)) [2]) (tCons (tOp (rI0 fun i j => .int (i + j)) (tVar 1) (tC (.int 1))) tNil)))))
theorem seqL_same {K : PySem.W.Frag} {H H' : Hp} {a : Addr} {xs : List V} (s : Same H H') (h : SqL K H a xs) : SqL K H' a xs := by
  rcases h with (h | ⟨o, h⟩) | h
  · exact .inl (.inl (s _ _ h))
  · exact .inl (.inr ⟨o, s _ _ h⟩)
  · exact .inr h
theorem tape_run {K : PySem.W.Frag} {Z : Ends} {H : Hp} {vs : List V} {E : XK} (h : spTape K vs H Z.rt E) {N : List Str} (hN : N.length = 3) : tTape K Z (L2.start N vs) H := by
  obtain ⟨a, ns, rfl, hq, hl, q⟩ := h
  have st : L2.start N [V.ref a] = [some (.ref a), none, none] := by
    unfold L2.start
    rw [hN]; rfl
  rw [st]
  refine ⟨.ref a, rfl, a, rfl, ⟨_, hq⟩, ?_⟩
  have hml : (ns.map V.int).length = ns.length := List.length_map ..
  refine ⟨fun i m σ H' => m = ns.length - i ∧ i ≤ ns.length ∧ H' = H ∧ ∃ s c, 0 ≤ s ∧ s < 1000003 ∧ σ = [some (.ref a), some (.int s), c] ∧ seedOf s (ns.drop i) = seedOf 7 ns, ⟨_, rfl, Nat.zero_le _, rfl, 7, none, by decide, by decide, rfl, rfl⟩, ?_⟩
  rintro i m σ H' ⟨rfl, hi, rfl, s, c, s0, s1, rfl, hs⟩
  by_cases hlt : i < ns.length
  · have hx : (ns.map V.int)[i]? = some (.int ns[i]) := by rw [List.getElem?_map, List.getElem?_eq_getElem hlt]; rfl
    refine .inr ⟨⟨_, _, hq, hx⟩, fun σ' H2 => H2 = H' ∧ ∃ s c, 0 ≤ s ∧ s < 1000003 ∧ σ' = [some (.ref a), some (.int s), c] ∧ seedOf s (ns.drop (i + 1)) = seedOf 7 ns, fun σ' H2 ⟨e, s, c, r⟩ => ⟨ns.length - (i + 1), by omega, rfl, hlt, e, s, c, r⟩, ?_⟩
    rintro x H2 ⟨rfl, hy⟩
    have ex := hy _ hq
    rw [hx] at ex
    cases ex
    refine ⟨.int s, rfl, s, 31, rfl, rfl, ?_, .int ns[i], rfl, s * 31, ns[i], rfl, rfl, .inl ⟨_, rfl, _, 1000003, rfl, rfl, (by decide : (0 : Int) < 1000003), ?_⟩⟩
    · exact Sm.mul (Sm.of (by have : s.natAbs < 1000003 := by omega
                              exact Nat.lt_trans this (by decide))) (Sm.of (by decide))
    · refine ⟨rfl, (s * 31 + ns[i]) % 1000003, some (.int ns[i]), Int.emod_nonneg _ (by decide), Int.emod_lt_of_pos _ (by decide), rfl, ?_⟩
      rw [← hs, List.drop_eq_getElem_cons hlt]
      rfl
  · have e : i = ns.length := by omega
    subst e
    rw [List.drop_length] at hs
    refine .inl ⟨⟨_, hq, by rw [hml]; exact Nat.le_refl _⟩, ?_⟩
    refine ⟨.ref a, rfl, a, rfl, ⟨_, hq⟩, fun L hL => ?_⟩
    have hLa : Same H' (upd H' L (.lst [])) := same_new hL
    have sm : ∀ xs : List V, Same H' (upd H' L (.lst xs)) := fun xs => same_new hL
    refine lc_list (K := K) (a := a) (xs := ns.map V.int) (fun i H2 => H2 = upd H' L (.lst ((ns.take i).map fun z => V.int (absI z)))) rfl (fun i H2 _ e => by rw [e]; exact seqL_same (sm _) hq) (fun i x H2 hx e => ?_) (fun H2 e => ?_)
    · subst e
      have hi2 : i < ns.length := by
        have := (List.getElem?_eq_some_iff.mp hx).1
        rw [hml] at this; exact this
      have hx2 : x = .int ns[i] := by
        rw [List.getElem?_map, List.getElem?_eq_getElem hi2] at hx
        cases hx; rfl
      subst hx2
      refine ⟨rfl, _, rfl, .inl ⟨_, rfl, _, rfl, _, upd_same, ?_, ?_⟩⟩
      · rw [List.length_map, List.length_take]
        exact Nat.lt_of_le_of_lt (Nat.min_le_right _ _) (Nat.lt_of_le_of_lt hl (by decide))
      · rw [upd_upd, List.take_succ_eq_append_getElem hi2, List.map_append]
        rfl
    · subst e
      rw [hml, List.take_length]
      refine ⟨.int s, rfl, s, 1, rfl, rfl, (by decide : 2 ≤ sizeLine), fun p hp => ?_⟩
      have hpL : p ≠ L := fun z => by rw [z, upd_same] at hp; cases hp
      have hp' : H' p = none := by rw [← hp, upd_ne hpL]
      refine q p L _ (fun b u hb _ => ?_) hp' hL ?_
      · rw [upd_ne (ne_of_none hb hp'), upd_ne (ne_of_none hb hL)]; exact hb
      · refine ta_upd hpL ?_ ?_
        · rw [upd_same]
          show _ = some (HO.lst [V.ref L, V.int (seedOf 7 ns + 1)])
          rw [← hs]; rfl
        · rw [upd_ne (Ne.symm hpL), upd_same]
          show _ = some (HO.lst ((ns.map absI).map V.int))
          rw [List.map_map]; rfl
end FL
set_option maxRecDepth 100000
set_option maxHeartbeats 4000000
noncomputable section
namespace FL
open PySem PySem.Spec PyProof.Rows L2
/-- what the law promises -/
def spLaw (K : PySem.W.Frag) : Sp := fun vs H Q _ => ∃ (a : Addr) (ns : List Int), vs = [.ref a] ∧ SqL K H a (ns.map V.int) ∧ ns.length ≤ 63 ∧ ∀ H', Q (.bl true) H'
/-- the names of the law as it starts: the tape at slot i -/
def lawE (n i : Nat) : Env := (List.replicate n none).set i (some .tape)
theorem rep_flat (n : Nat) : (List.replicate n ([] : List Addr)).flatten = [] := by simp
theorem fl_law {P : Program} {w : World} {K : PySem.W.Frag} {mg : Str → Option Value} {base : Heap} {qual y x : Str} {st : Stmt} {f ft : Addr} {fd fdt : FuncData} {N : List Str} {j i : Nat} {sm : SM} {rest : List Stmt} {px pp ps pa pc : Pos} {fl0 : List Nat}
    (F : Fun K x qual st f fd) (S : FnScope N ["script"] (defScope st)) (FT : FnOk P w K mg base CX0 1 ft fdt ["script"] (spTape K)) (hk : PySem.W.keepIn K (.ref ft) = true) (hb : Binds K fdt ["script"] []) (hm : mg "_law_tape" = some (.ref ft)) (hj : 1 ≤ j)
    (hd : defBody st = .Assign [.Name y px] (.Call (.Name "_law_tape" pp) [.Name "script" ps] [] pc) pa :: rest)
    (hi : N[i]? = some y) (hi0 : i ≠ 0)
    (h1 : ∀ (cdv : Value) (A : Around) (outer : List PySem.Env) (s : Shared) (H : Hp) (E : XK) (te : TE), PE (cxOf CX0 P w K mg base N qual (defScope st) f cdv A outer s H E).nox (.Call (.Name "_law_tape" pp) [.Name "script" ps] [] pc) te → PS (cxOf CX0 P w K mg base N qual (defScope st) f cdv A outer s H E).nox (.Assign [.Name y px] (.Call (.Name "_law_tape" pp) [.Name "script" ps] [] pc) pa) (tAsg te (gName i)))
    (hc : ∀ (cdv : Value) (A : Around) (outer : List PySem.Env) (s : Shared) (H : Hp) (E : XK), Room j (A.deeper (envOfC qual (defScope st) s.heap.objs.size f cdv)) →
      PE (cxOf CX0 P w K mg base N qual (defScope st) f cdv A outer s H E).nox (.Call (.Name "_law_tape" pp) [.Name "script" ps] [] pc) (tCall (spTape K) [] (fun _ _ _ => False) (tCons (tVar 0) tNil)))
    (h2 : ∀ (cdv : Value) (A : Around) (outer : List PySem.Env) (s : Shared) (H : Hp) (E : XK) (tp : TP) (B : Hp), Room j (A.deeper (envOfC qual (defScope st) s.heap.objs.size f cdv)) →
      ∃ fl', FSs (cxOf CX0 P w K mg base N qual (defScope st) f cdv A outer s H E).nox tp B 0 [] fl0 fl' rest sm) (hfl0 : fl0 = List.replicate N.length 0)
    (plain : ∀ ns : List Int, ns.length ≤ 63 → ∃ t', sm (lawE N.length i) (tapeOf ns) = some (.rt (.bl true) t')) : FnOk P w K mg base CX0 (j + 1) f fd ["script"] (spLaw K) := by
  subst hfl0
  refine F.ok S (fun vs H Q E ⟨a, ns, e, _⟩ => by rw [e]; rfl) fun cdv A outer s H vs Q E hr ⟨a, ns, e, hq, hl, q⟩ => ?_
  subst e
  have key : ∀ p : TP × Hp, ∃ fl', FSs (cxOf CX0 P w K mg base N qual (defScope st) f cdv A outer s H E).nox p.1 p.2 0 [] (List.replicate N.length 0) fl' rest sm := fun p => h2 cdv A outer s H E p.1 p.2 hr
  refine ⟨tSeq (tAsg (tCall (spTape K) [] (fun _ _ _ => False) (tCons (tVar 0) tNil)) (gName i)) (fun Z σ H => ∃ p : TP × Hp, tS K p.1 p.2 0 [] (List.replicate N.length 0) (key p).choose sm Z σ H), ?_, ?_⟩
  · rw [hd]
    exact pss_cons (h1 cdv A outer s H E _ (hc cdv A outer s H E hr)) (PSs.ex fun p => (key p).choose_spec)
  have hN0 : 0 < N.length := by
    have := S.pre
    cases N with
    | nil => cases this
    | cons _ _ => exact Nat.succ_pos _
  have hiN : i < N.length := (List.getElem?_eq_some_iff.mp hi).1
  have st0 : L2.start N [V.ref a] = some (.ref a) :: List.replicate (N.length - 1) none := rfl
  refine ⟨.ref a, by rw [st0]; rfl, a, ns, rfl, hq, Nat.le_trans hl (by decide), fun p c H' sx hp hcn ta => ?_⟩
  obtain ⟨t', ht⟩ := plain ns hl
  refine ⟨(some (p, c), hid [p, c] H'), ⟨[], List.replicate N.length []⟩, lawE N.length i, tapeOf ns, _, ?_, ht, fun v H2 r => ?_⟩
  · have e0 : ours (some (p, c)) ⟨[], List.replicate N.length []⟩ = [p, c] := by
      unfold ours
      rw [rep_flat]; rfl
    have hl2 : ((L2.start N [V.ref a]).set i (some (.ref p))).length = N.length := by
      rw [List.length_set, st0]; simp; omega
    refine ⟨by rw [hl2]; simp, by rw [hl2]; simp [lawE], by rw [hl2]; simp, ?_, ta, by rw [e0]; exact Same.refl _, fun b hb => ?_, fun k F h3 h4 => ?_, fun k n d F h3 h4 h5 => ?_⟩
    · rw [e0]
      have := (ta p c rfl).1
      simp [this]
    · rw [rep_flat] at hb; cases hb
    · have h4' : (List.replicate N.length ([] : List Addr))[k]? = some F := h4
      rw [List.getElem?_replicate] at h4'
      split at h4'
      · cases h4'; rfl
      · cases h4'
    · have h5' : (List.replicate N.length ([] : List Addr))[k]? = some F := h5
      rw [List.getElem?_replicate] at h3 h5'
      split at h3
      case isFalse => cases h3
      rename_i hk'
      rw [if_pos hk'] at h5'
      cases h3; cases h5'
      unfold lawE at h4
      by_cases hki : i = k
      · subst hki
        rw [List.getElem?_set_self (by simpa using hiN)] at h4
        cases h4
        refine ⟨.ref p, ?_, .tape rfl, rfl⟩
        rw [List.getElem?_set_self (by rw [st0]; simp; omega)]
      · rw [List.getElem?_set_ne hki, List.getElem?_replicate] at h4
        split at h4 <;> cases h4
  · have hv := r.val
    rcases hv with ⟨_, F, _, _, ow⟩ | ⟨hl, _⟩
    case inr => exact absurd hl (by decide)
    have := ow.1.bl_inv
    subst this
    exact q H2
end FL
namespace FL
open PySem PySem.Spec PyProof.Rows L2
theorem gc_int {K : PySem.W.Frag} {mg : Str → Option Value} {x : Str} {i : Int} {t : Tok} (h : mg x = some (.int i t)) : GC K mg x (.int i) := ⟨.int i, _, h, ⟨t, rfl⟩, fun _ _ => .int i⟩
theorem gc_str {K : PySem.W.Frag} {mg : Str → Option Value} {x : Str} {i : Str} {t : Tok} (h : mg x = some (.str i t)) : GC K mg x (.str i) := ⟨.str i, _, h, ⟨t, rfl⟩, fun _ _ => .str i⟩
theorem gc_ints {K : PySem.W.Frag} {mg : Str → Option Value} {x : Str} {a : Addr} {od : Option Addr} {its : Array Value} {n : Nat} {sl : Array (Option Value)} {is : List Int} (h : mg x = some (.ref a)) (l : K.lookup a = some ⟨.type "tuple", od, .seq its n, sl⟩) (hs : its.size ≤ sizeLine) (v : Vals (is.map V.int) its.toList) : GC K mg x (.tup (is.map D.int)) :=
  ⟨.ref a, _, h, rfl, fun tp H => .tup (xs := is.map V.int) (.inr ⟨_, its, n, l, rfl, rfl, hs, v⟩) (by simp) fun i w d h1 h2 => by
    rw [List.getElem?_map] at h1 h2
    cases e : is[i]? with
    | none => rw [e] at h1; cases h1
    | some z => rw [e] at h1 h2; cases h1; cases h2; exact .int z⟩
end FL
set_option maxRecDepth 100000
set_option maxHeartbeats 1000000
noncomputable section
namespace FL
open PySem PySem.Spec PyProof.Rows L2
theorem flat_apart : ∀ {Gs : List (List Addr)} {i j : Nat} {F G : List Addr} {a : Addr}, Gs.flatten.Nodup → Gs[i]? = some F → Gs[j]? = some G → i ≠ j → a ∈ F → a ∉ G
  | [], i, j, F, G, a, _, h, _, _, _ => by simp at h
  | X :: Gs, 0, 0, F, G, a, _, _, _, h, _ => absurd rfl h
  | X :: Gs, 0, j + 1, F, G, a, nd, h1, h2, _, ha => fun hg => by
    rw [List.flatten_cons] at nd
    have e : X = F := by simpa using h1
    exact (List.nodup_append.mp nd).2.2 a (by rw [e]; exact ha) a (List.mem_flatten.mpr ⟨G, List.mem_of_getElem? (by simpa using h2), hg⟩) rfl
  | X :: Gs, i + 1, 0, F, G, a, nd, h1, h2, _, ha => fun hg => by
    rw [List.flatten_cons] at nd
    have e : X = G := by simpa using h2
    exact (List.nodup_append.mp nd).2.2 a (by rw [e]; exact hg) a (List.mem_flatten.mpr ⟨F, List.mem_of_getElem? (by simpa using h1), ha⟩) rfl
  | X :: Gs, i + 1, j + 1, F, G, a, nd, h1, h2, hij, ha => by
    rw [List.flatten_cons] at nd
    exact flat_apart (Gs := Gs) (i := i) (j := j) (List.nodup_append.mp nd).2.1 (by simpa using h1) (by simpa using h2) (fun z => hij (by rw [z])) ha
section
variable {X : Cx} {tp : TP} {B : Hp} {fl fl' fl1 ws vs : List Nat} {e e1 e2 e3 a b c tg iter elt : Expr} {es rest ifs : List Expr} {k ka kb kc : Kd} {m ma mb mc me : EM} {ba bb : BM} {mr : AM} {mi : IM} {g : GM} {pos : Pos} {lv n n1 n2 n3 : Nat} {lp fl2 : List Nat} {st : Stmt} {sts sts2 : List Stmt} {sm sm1 sm2 : SM}
/-- x[y][z] = e -/
def mSetI2 (i : Nat) (my mz me : EM) : SM := fun ρ t => (me ρ t).bind fun p => (my ρ p.2).bind fun q => (mz ρ q.2).bind fun r => match ρ[i]?, q.1, r.1 with
  | some (some (.lst l)), .int j, .int k => (ixN l.length j).bind fun a => match l[a]? with
    | some (.lst m) => (ixN m.length k).map fun b => .nx (ρ.set i (some (.lst (l.set a (.lst (m.set b p.1)))))) r.2
    | _ => none
  | _, _, _ => none
theorem fs_setI2 (i : Nat) {x : Str} {xp sp1 sp : Pos} (hf : fl[i]? = some 2) (he : FE X tp B fl e (.o 0) me) (hy : FE X tp B fl e1 k ma) (hz : FE X tp B fl e2 ka mb) (hN : X.N[i]? = some x := by rfl) (hv : Vis X.env.scope x := by first | exact Or.inl rfl | exact Or.inr (Or.inl rfl) | exact Or.inr (Or.inr rfl)) (hd : (x == ("__debug__" : Str)) = false := by decide)
    (hcd : (x == ("__classdict__" : Str)) = false := by decide) (hsy : PlainIx e1 := by exact fun _ _ => rfl)
    (ha : ∀ v, assign (.Subscript (.Subscript (.Name x xp) e1 sp1) e2 sp) X.env v = (do
      let ov ← holding [v] (eval (.Subscript (.Name x xp) e1 sp1) X.env); let iv ← holding [v, ov] (eval e2 X.env)
      standAt sp; holding [v, ov, iv] (setItem ov iv v); release [v, ov, iv] []) := by intro _; rfl)
    (hs : swapsWithSole [.Subscript (.Subscript (.Name x xp) e1 sp1) e2 sp] e pos.line X.env = pure false := by rfl) (hw : swappedStores [.Subscript (.Subscript (.Name x xp) e1 sp1) e2 sp] e X.env = pure none := by rfl)
    (h1 : (assignEach [.Subscript (.Subscript (.Name x xp) e1 sp1) e2 sp] X.env).map (·.2) = [assign (.Subscript (.Subscript (.Name x xp) e1 sp1) e2 sp) X.env] := by rfl) :
    FS X tp B lv lp fl fl (.Assign [.Subscript (.Subscript (.Name x xp) e1 sp1) e2 sp] e pos) (mSetI2 i ma mb me) :=
  PS.imp (ps_asg he (pg_sub (pe_ix ix_any (pe_var hN hv hd hcd) hy hsy) hz set_list ha) hs hw h1) fun D σ H ⟨Fs, ρ, t, o, R, hm, q⟩ => by
    obtain ⟨⟨d, t1⟩, h1, h2⟩ := bind_some hm
    obtain ⟨⟨dj, t2⟩, h3, h4⟩ := bind_some h2
    obtain ⟨⟨dk, t3⟩, h5, h6⟩ := bind_some h4
    simp only at h3 h5 h6
    split at h6
    case h_2 => cases h6
    rename_i l j kk hl
    obtain ⟨ja, ez, h6⟩ := bind_some h6
    split at h6
    case h_2 => cases h6
    rename_i mm hlj
    cases ek : ixN mm.length kk with
    | none => rw [ek] at h6; cases h6
    | some jb =>
      rw [ek] at h6
      cases h6
      have hi : i < Fs.s.length := by rw [R.l3, ← R.l2]; exact (List.getElem?_eq_some_iff.mp hl).1
      obtain ⟨v, ev, ow⟩ := R.slot i 2 _ _ hf hl (List.getElem?_eq_getElem hi)
      obtain ⟨p, xs, ds, Gs, rfl, e2, hp, l1, l2, eF, its⟩ := id ow
      cases e2
      have hpo : p ∈ Fs.s[i] := by rw [eF]; exact List.mem_cons_self
      have hS : ∀ b ∈ Fs.s[i], b ∉ tpl tp := fun b hb z => (List.nodup_append.mp R.nd).2.2 b (List.mem_append_right _ (List.mem_flatten.mpr ⟨_, List.getElem_mem hi, hb⟩)) b z rfl
      have hja : ja < l.length := (List.getElem?_eq_some_iff.mp hlj).1
      have hxa : xs[ja]? = some xs[ja] := List.getElem?_eq_getElem (by omega)
      have hGa : Gs[ja]? = some Gs[ja] := List.getElem?_eq_getElem (by omega)
      obtain ⟨a1, xs1, ms, ev1, em, ha1, rl1, eG⟩ := own1 (its ja _ _ _ hxa hlj hGa)
      cases em
      have hGn : (p :: Gs.flatten).Nodup := by
        rw [← eF]
        exact ((List.nodup_append.mp (List.nodup_append.mp R.nd).1).2.1).sublist (List.sublist_flatten_of_mem (List.getElem_mem hi))
      have ha1F : a1 ∈ Gs.flatten := List.mem_flatten.mpr ⟨_, List.mem_of_getElem? hGa, by rw [eG]; exact List.mem_cons_self⟩
      have ha1o : a1 ∈ Fs.s[i] := by rw [eF]; exact List.mem_cons_of_mem _ ha1F
      have hpa1 : p ≠ a1 := fun z => (List.nodup_cons.mp hGn).1 (by rw [z]; exact ha1F)
      refine ⟨Fs, ρ, t, d, t1, R, h1, fun v1 H1 r1 => ?_⟩
      have R1 := R.step r1.same r1.tape
      refine ⟨.ref p, ev, Fs, ρ, t1, _, t2, R1, h3, fun v2 H2 r2 => .inr (.inl ⟨p, xs, j, xs[ja], rfl, (r2.inn R1.ok).all.int_inv, .inl (.inl (r2.same _ _ (r1.same _ _ hp (hS p hpo)) (hS p hpo))), ?_, ?_⟩)⟩
      · have ez' : ixN xs.length j = some ja := by rw [l1]; exact ez
        unfold atI
        rw [ez']; exact hxa
      have R2 := R1.step r2.same r2.tape
      refine ⟨Fs, ρ, t2, _, t3, R2, h5, fun v3 H3 r3 => ?_⟩
      have R3 := R2.step r3.same r3.tape
      have s3 := (r1.same.trans r2.same).trans r3.same
      have ha3 : H3 a1 = some (.lst xs1) := s3 _ _ ha1 (hS a1 ha1o)
      have hp3 : H3 p = some (.lst xs) := s3 _ _ hp (hS p hpo)
      have hjb : jb < mm.length := (ixN_seq ek).2.1
      refine ⟨a1, xs1, kk, jb, ev1, (r3.inn R2.ok).all.int_inv, ha3, by rw [rl1.1]; exact ek, ?_⟩
      have i1 : Rp X.K tp (hid (ours tp Fs) H3) v1 d := ((r1.frz R.ok).mono (hid_step R1.ok r2.same)).mono (hid_step R2.ok r3.same)
      have hh : Same (hid (ours tp Fs) H) (hid (ours tp Fs) H3) := hid_step R.ok s3
      refine q _ _ _ (RelF.mut (F := []) (E := Fs.e) (S := Fs.s) R3 i (n := 1) (G := Fs.s[i]) (G' := Fs.s[i]) (a := a1) hf (List.getElem?_eq_getElem hi) ha1o (fun b hb => .inl hb) (by rw [eF]; exact hGn) ev ?_)
      refine ⟨p, xs, l.set ja (.lst (mm.set jb d)), Gs, rfl, rfl, by rw [upd_ne hpa1]; exact hp3, by simp [l1], by simp [l2], eF, fun jj v' d' Gj h1 h2 h3 => ?_⟩
      by_cases hj : ja = jj
      · subst hj
        rw [List.getElem?_set_self hja] at h2
        rw [hxa] at h1
        rw [hGa] at h3
        cases h1; cases h2; cases h3
        refine ⟨a1, xs1.set jb v1, mm.set jb d, List.replicate mm.length [], ev1, rfl, upd_same, by simp [rl1.1], by simp, ?_, fun y v' d' F' h1 h2 h3 => ?_⟩
        · rw [eG, rep_flat]
        · have hF' : F' = [] := by
            rw [List.getElem?_replicate] at h3
            split at h3
            · cases h3; rfl
            · cases h3
          refine ⟨?_, hF'⟩
          by_cases hy : jb = y
          · subst hy
            rw [List.getElem?_set_self (by rw [rl1.1]; exact hjb)] at h1
            rw [List.getElem?_set_self hjb] at h2
            cases h1; cases h2
            exact i1
          · rw [List.getElem?_set_ne hy] at h1 h2
            exact (rl1.2 y v' d' h1 h2).mono hh
      · rw [List.getElem?_set_ne hj] at h2
        have nb : ∀ b ∈ Gj, b ≠ a1 := fun b hb z => flat_apart (List.nodup_cons.mp hGn).2 h3 hGa (fun z => hj z.symm) hb (by rw [eG, z]; exact List.mem_cons_self)
        refine (its jj v' d' Gj h1 h2 h3).mono hh fun b u hb hu => ?_
        rw [upd_ne (nb b hb)]
        exact s3 b u hu (hS b (by rw [eF]; exact List.mem_cons_of_mem _ (List.mem_flatten.mpr ⟨Gj, List.mem_of_getElem? h3, hb⟩)))
/-- x.extend(e), frozen items -/
def mExt (i : Nat) (m : EM) : SM := fun ρ t => match ρ[i]? with
  | some (some (.lst l)) => (m ρ t).bind fun p => match p.1 with
    | .lst r => if small (l ++ r) then some (.nx (ρ.set i (some (.lst (l ++ r)))) p.2) else none
    | _ => none
  | _ => none
theorem fs_extend (i : Nat) {x : Str} {xp apos cpos : Pos} (hf : fl[i]? = some 1) (he : FE X tp B fl e .l me) (hN : X.N[i]? = some x := by rfl) (hv : Vis X.env.scope x := by first | exact Or.inl rfl | exact Or.inr (Or.inl rfl) | exact Or.inr (Or.inr rfl)) (hd : (x == ("__debug__" : Str)) = false := by decide)
    (hcd : (x == ("__classdict__" : Str)) = false := by decide) (hbase : attributeBase (.Name x xp) "extend" X.env (eval (.Name x xp) X.env) = eval (.Name x xp) X.env := by rfl)
    (hfew : ((backTo cpos (starEach (e :: []) X.env)).all (fun x => !x.1) && (backToKw cpos (keywordEach [] X.env)).all (fun x => x.1.isSome) && decide ((e :: ([] : List Expr)).length + ([] : List Keyword).length + (if ([] : List Keyword).isEmpty then 0 else 1) < 30)) = true := by rfl)
    (hline : (apos.endLine == cpos.line) = true := by rfl) (hs : starEach (e :: []) X.env = (false, eval e X.env) :: starEach [] X.env := by rfl) (hplain : (backTo cpos (starEach [] X.env)).any (·.1) = false := by rfl)
    (hsw : swapsWith (.Call (.Attribute (.Name x xp) "extend" apos) [e] [] cpos) none pos.line X.env = pure false := by rfl) :
    FS X tp B lv lp fl fl (.Expr (.Call (.Attribute (.Name x xp) "extend" apos) [e] [] cpos) pos) (mExt i me) :=
  PS.imp (ps_expr (pe_bm PySem.F.plainAttrs_list PySem.F.slot_list_extend PySem.F.type_list_extend mt_extend (pe_var hN hv hd hcd) (pa_cons he pa_nil hs) hbase hfew hline hs hplain) hsw) fun D σ H ⟨Fs, ρ, t, o, R, hm, q⟩ => by
    unfold mExt at hm
    split at hm
    case h_2 => cases hm
    rename_i l hl
    obtain ⟨⟨d, t1⟩, h1, h2⟩ := bind_some hm
    simp only at h2
    split at h2
    case h_2 => cases h2
    rename_i r
    split at h2
    case isFalse => cases h2
    rename_i hsm
    cases h2
    have hi : i < Fs.s.length := by rw [R.l3, ← R.l2]; exact (List.getElem?_eq_some_iff.mp hl).1
    obtain ⟨v, ev, ow⟩ := R.slot i 1 _ _ hf hl (List.getElem?_eq_getElem hi)
    obtain ⟨p, xs, ds, rfl, e2, hp, rl, eF⟩ := own1 ow
    cases e2
    have hpo : p ∈ Fs.s[i] := by rw [eF]; exact List.mem_cons_self
    have hpt : p ∉ tpl tp := fun z => (List.nodup_append.mp R.nd).2.2 p (List.mem_append_right _ (List.mem_flatten.mpr ⟨_, List.getElem_mem hi, hpo⟩)) p z rfl
    refine ⟨.ref p, ev, tyL hp, Fs, ρ, t, .lst r, t1, R, h1, fun v1 H1 r1 => ?_⟩
    obtain ⟨b, zs, rfl, hb, rz⟩ := Lv.lst (show Lv X.K tp (ours tp Fs) H1 v1 (.lst r) from r1.val)
    have R1 := R.step r1.same r1.tape
    have hp1 : H1 p = some (.lst xs) := r1.same _ _ hp hpt
    have hh : Same (hid (ours tp Fs) H) (hid (ours tp Fs) H1) := hid_step R.ok r1.same
    have hlen : xs.length + zs.length ≤ sizeLine := by
      rw [rl.1, rz.1, ← List.length_append]; exact small_ok hsm
    refine ⟨p, b, xs, zs, rfl, rfl, hp1, hb, hlen, ?_⟩
    have rr : RpL X.K tp (hid (ours tp Fs) H1) (xs ++ zs) (l ++ r) := (rl.mono hh).append rz
    refine q _ _ _ (RelF.mut (F := []) (E := Fs.e) (S := Fs.s) R1 i (n := 0) (G := Fs.s[i]) (G' := Fs.s[i]) (a := p) hf (List.getElem?_eq_getElem hi) hpo (fun b hb => .inl hb) (by rw [eF]; simp) ev ?_)
    refine ⟨p, xs ++ zs, l ++ r, List.replicate (l ++ r).length [], rfl, rfl, upd_same, rr.1, by simp, by rw [eF, rep_flat], fun y v' d' F' h1 h2 h3 => ⟨rr.2 y v' d' h1 h2, ?_⟩⟩
    rw [List.getElem?_replicate] at h3
    split at h3
    · cases h3; rfl
    · cases h3
end
end FL
set_option maxRecDepth 100000
set_option maxHeartbeats 1000000
noncomputable section
namespace FL
open PySem PySem.Spec PyProof.Rows L2
/-! ### instances: attributes read, methods called, instances made -/
def getF (f : Str) : List Str → List D → Option D
  | k :: ks, d :: ds => if k = f then some d else getF f ks ds
  | _, _ => none
theorem getF_at {f : Str} {d : D} : ∀ {ks : List Str} {ds : List D} {xs : List V}, getF f ks ds = some d → xs.length = ds.length → ∃ (i : Nat) (v : V), xs[i]? = some v ∧ ds[i]? = some d ∧ (ks.zip xs).lookup f = some v
  | [], _, _, h, _ => by cases h
  | _ :: _, [], _, h, _ => by cases h
  | k :: ks, e :: ds, [], _, l => by simp at l
  | k :: ks, e :: ds, x :: xs, h, l => by
    unfold getF at h
    by_cases c : k = f
    · rw [if_pos c] at h
      cases h
      refine ⟨0, x, rfl, rfl, ?_⟩
      have hb : (f == k) = true := beq_iff_eq.mpr c.symm
      simp only [List.zip_cons_cons, List.lookup, hb]
    · rw [if_neg c] at h
      obtain ⟨i, v, h1, h2, h3⟩ := getF_at h (by simpa using l)
      refine ⟨i + 1, v, by simpa using h1, by simpa using h2, ?_⟩
      have hb : (f == k) = false := beq_eq_false_iff_ne.mpr fun z => c z.symm
      simp only [List.zip_cons_cons, List.lookup, hb]
      exact h3
theorem look_none {f : Str} : ∀ {ks : List Str} {xs : List V}, ks.contains f = false → (ks.zip xs).lookup f = none
  | [], _, _ => rfl
  | _ :: _, [], _ => rfl
  | k :: ks, x :: xs, h => by
    have h2 : (f == k) = false ∧ ks.contains f = false := by
      rw [List.contains_cons, Bool.or_eq_false_iff] at h
      exact h
    simp only [List.zip_cons_cons, List.lookup, h2.1]
    exact look_none h2.2
theorem Rp.obj_inv {K : PySem.W.Frag} {tp : TP} {H : Hp} {v : V} {c : Str} {ks : List Str} {ds : List D} {C : Addr} (hc : PySem.W.nsIn K mainGlobals c = some (some (.ref C))) (h : Rp K tp H v (.obj c ks ds)) : ∃ a dx xs, v = .ref a ∧ H a = some (.ins C dx (ks.zip xs)) ∧ RpL K tp H xs ds := by
  cases h with
  | obj hc' q hk hk2 l r =>
    rw [hc] at hc'
    cases hc'
    exact ⟨_, _, _, rfl, q, l, r⟩
section
variable {X : Cx} {tp : TP} {B : Hp} {fl fl' fl1 ws vs : List Nat} {e e1 e2 e3 o a b tg iter elt : Expr} {es rest ifs : List Expr} {k ka kb kc : Kd} {m ma mb mc me : EM} {ba bb : BM} {mr : AM} {mi : IM} {g : GM} {pos : Pos} {lv n n1 n2 n3 : Nat} {lp fl2 : List Nat} {st : Stmt} {sts sts2 : List Stmt} {sm sm1 sm2 : SM}
/-- e.f, e an instance of c -/
def mFld (c f : Str) (m : EM) : EM := fun ρ t => (m ρ t).bind fun p => match p.1 with
  | .obj c' ks ds => if c' = c then (getF f ks ds).map fun d => (d, p.2) else none
  | _ => none
theorem fe_fld {c f : Str} {C : Addr} (hc : PySem.W.nsIn X.K mainGlobals c = some (some (.ref C))) (cl : Cls X.K C) (na : NoAttr X.K C f) (ha : FE X tp B fl e (.o 0) m) (hb : attributeBase e f X.env (eval e X.env) = eval e X.env := by rfl) : FE X tp B fl (.Attribute e f pos) (.o 0) (mFld c f m) :=
  PE.imp (pe_fld ha hb) fun σ H Q ⟨Fs, ρ, t, d, t', R, hm, q⟩ => by
    obtain ⟨⟨x, t1⟩, h1, h2⟩ := bind_some hm
    simp only at h2
    split at h2
    case h_2 => cases h2
    rename_i c' ks ds
    split at h2
    case isFalse => cases h2
    rename_i ec
    subst ec
    cases e3 : getF f ks ds with
    | none => rw [e3] at h2; cases h2
    | some y =>
      rw [e3] at h2
      cases h2
      refine ⟨Fs, ρ, t, _, _, R, h1, fun v H1 r1 => ?_⟩
      obtain ⟨a, dx, xs, rfl, ha', rl⟩ := (r1.frz R.ok).obj_inv hc
      obtain ⟨i, v, hv, hd, hl⟩ := getF_at e3 rl.1
      exact ⟨a, C, dx, _, v, rfl, (hid_some ha').2, cl, na, hl, q v H1 (.mk0 r1.same r1.tape (rl.2 i v _ hv hd))⟩
/-- o.m(..) -/
def mMeth (c m : Str) (n lv : Nat) (f : FM) (mo : EM) (ma : AM) : EM := fun ρ t => (mo ρ t).bind fun o => match o.1 with
  | .obj c' ks ds => if c' = c ∧ ks.contains m = false then (ma ρ o.2).bind fun p => if p.1.length + 1 = n then (f (.obj c' ks ds :: p.1) p.2).bind fun q => if plnL lv q.1 then some q else none else none else none
  | _ => none
theorem mMeth_some {c m : Str} {f : FM} {mo : EM} {ma : AM} {ρ : Env} {t t' : Tape} {d : D} (h : mMeth c m n lv f mo ma ρ t = some (d, t')) : ∃ ks ds t1 as t2, mo ρ t = some (.obj c ks ds, t1) ∧ ks.contains m = false ∧ ma ρ t1 = some (as, t2) ∧ as.length + 1 = n ∧ f (.obj c ks ds :: as) t2 = some (d, t') ∧ plnL lv d = true := by
  obtain ⟨⟨x, t1⟩, h1, h2⟩ := bind_some h
  simp only at h2
  split at h2
  case h_2 => cases h2
  rename_i c' ks ds
  split at h2
  case isFalse => cases h2
  rename_i ec
  obtain ⟨rfl, hk⟩ := ec
  obtain ⟨⟨as, t2⟩, h3, h4⟩ := bind_some h2
  simp only at h4
  split at h4
  case isFalse => cases h4
  rename_i hl
  obtain ⟨⟨d', t3⟩, h5, h6⟩ := bind_some h4
  simp only at h6
  split at h6
  case isFalse => cases h6
  rename_i hp
  cases h6
  exact ⟨ks, ds, t1, as, t2, h1, hk, h3, hl, h5, hp⟩
theorem fe_meth {CX : CXT} {j : Nat} {f C : Addr} {fd : FuncData} {ps : List Str} {c x : Str} {apos : Pos} {E : XK} {fm : FM} {pl : Sem Bool} (hc : PySem.W.nsIn X.K mainGlobals c = some (some (.ref C))) (cl : Cls X.K C) (hm : Meth X.K C x f) (F : FnOk X.prog X.w X.K X.mg X.base CX j f fd ps (spD X.K n lv fm)) (hr : Room j X.A) (hb : Binds X.K fd ps []) (hx : Passes CX X E)
    (ho : FE X tp B fl o (.o 0) ma) (ha : FA X tp B fl (e :: es) .b mr)
    (hst : starEach (e :: es) X.env = (false, eval e X.env) :: starEach es X.env := by rfl) (hpl : (backTo pos (starEach es X.env)).any (·.1) = false := by rfl)
    (ht : eval (.Call (.Attribute o x apos) (e :: es) [] pos) X.env = (do
      let ov ← eval o X.env
      standAt apos.atName
      let (f, first) ← holding [ov] (getMethod ov x pl)
      callWith pos f first (backTo pos (starEach (e :: es) X.env)) (backToKw pos (keywordEach [] X.env))) := by rfl) (hlv : lv < 1000 := by decide) :
    FE X tp B fl (.Call (.Attribute o x apos) (e :: es) [] pos) (.o lv) (mMeth c x n lv fm ma mr) :=
  PE.imp (pe_meth ho cl hm F hr hb .nil hx ha hst hpl ht) fun σ H Q ⟨Fs, ρ, t, d, t', R, hm', q⟩ => by
    obtain ⟨ks, ds, t1, as, t2, h1, hk, h2, hl, h3, hp⟩ := mMeth_some hm'
    refine ⟨Fs, ρ, t, _, t1, R, h1, fun v H1 r1 => ?_⟩
    have R1 := R.step r1.same r1.tape
    have rv := r1.frz R.ok
    obtain ⟨a, dx, xs, rfl, ha', rl⟩ := rv.obj_inv hc
    refine ⟨a, dx, _, rfl, (hid_some ha').2, look_none hk, Fs, ρ, t1, as, t2, R1, h2, fun vs H2 r2 => ?_⟩
    have R2 := R1.step r2.same r2.tape
    refine ⟨tp, t2, _ :: as, d, t', r2.tape, by rw [List.length_cons]; exact hl, ?_, h3, fun v H' r => q v H' (.trans r1.same r1.tape (.trans r2.same r2.tape (ret_res R2 hlv hp r)))⟩
    rw [List.append_nil]
    exact .cons ((r1.inn R.ok).brw R1.ok |>.mono (hidT_step r2.same)) r2.rplB
theorem fe_meth0 {CX : CXT} {j : Nat} {f C : Addr} {fd : FuncData} {ps : List Str} {c x : Str} {apos : Pos} {E : XK} {fm : FM} {pl : Sem Bool} (hc : PySem.W.nsIn X.K mainGlobals c = some (some (.ref C))) (cl : Cls X.K C) (hm : Meth X.K C x f) (F : FnOk X.prog X.w X.K X.mg X.base CX j f fd ps (spD X.K n lv fm)) (hr : Room j X.A) (hb : Binds X.K fd ps []) (hx : Passes CX X E)
    (ho : FE X tp B fl o (.o 0) ma)
    (ht : eval (.Call (.Attribute o x apos) [] [] pos) X.env = (do
      let ov ← eval o X.env
      standAt apos.atName
      let (f, first) ← holding [ov] (getMethod ov x pl)
      callWith pos f first (backTo pos (starEach [] X.env)) (backToKw pos (keywordEach [] X.env))) := by rfl) (hlv : lv < 1000 := by decide) :
    FE X tp B fl (.Call (.Attribute o x apos) [] [] pos) (.o lv) (mMeth c x n lv fm ma mNil) :=
  PE.imp (pe_meth0 ho cl hm F hr hb .nil hx ht) fun σ H Q ⟨Fs, ρ, t, d, t', R, hm', q⟩ => by
    obtain ⟨ks, ds, t1, as, t2, h1, hk, h2, hl, h3, hp⟩ := mMeth_some hm'
    cases h2
    refine ⟨Fs, ρ, t, _, t1, R, h1, fun v H1 r1 => ?_⟩
    have R1 := R.step r1.same r1.tape
    have rv := r1.frz R.ok
    obtain ⟨a, dx, xs, rfl, ha', rl⟩ := rv.obj_inv hc
    refine ⟨a, dx, _, rfl, (hid_some ha').2, look_none hk, ?_⟩
    refine ⟨tp, t1, [_], d, t', r1.tape, by simpa using hl, ?_, h3, fun v H' r => q v H' (.trans r1.same r1.tape (ret_res R1 hlv hp r))⟩
    exact .one ((r1.inn R.ok).brw R1.ok)
/-! making -/
abbrev FIM := List D → Tape → Option (List Str × List D × Tape)
/-- __init__'s promise -/
def spI (K : PySem.W.Frag) (C : Addr) (n : Nat) (f : FIM) : Sp := fun vs H Q _ => ∃ tp t x dx vs' ds ks es t' H0, vs = .ref x :: vs' ∧ H0 x = none ∧ H0 dx = none ∧ H = upd (upd H0 dx (.own x)) x (.ins C dx []) ∧ TapeAt tp H0 t ∧ ds.length = n ∧ RpL K tp (hid (tpl tp) H0) vs' ds ∧ f ds t = some (ks, es, t') ∧
  ∀ H' xs, SameX tp H0 H' → H' x = some (.ins C dx (ks.zip xs)) → ks.length = xs.length → RpL K tp (hid (tpl tp) H0) xs es → TapeAt tp H' t' → Q .non H'
def mMake (c : Str) (n : Nat) (f : FIM) (ma : AM) : EM := fun ρ t => (ma ρ t).bind fun p => if p.1.length = n then (f p.1 p.2).bind fun r => if r.1.length < 100 ∧ r.2.1.all (pln 8) = true then some (.obj c r.1 r.2.1, r.2.2) else none else none
theorem fe_make {CX : CXT} {j : Nat} {f C : Addr} {fd : FuncData} {ps : List Str} {c x : Str} {p : Pos} {E : XK} {fm : FIM} (hc : PySem.W.nsIn X.K mainGlobals c = some (some (.ref C))) (M : Mk X.K C f) (F : FnOk X.prog X.w X.K X.mg X.base CX j f fd ps (spI X.K C n fm)) (hr : Room (j + 1) X.A) (hg : Gl X x) (hm : X.mg x = some (.ref C)) (hb : Binds X.K fd ps []) (hx : Passes CX X E)
    (ha : FA X tp B fl (e :: es) .b mr) (hdb : (x == ("__debug__" : Str)) = false := by decide) (he : starEach (e :: es) X.env = (false, eval e X.env) :: starEach es X.env := by rfl) (hpl : (backTo pos (starEach es X.env)).any (·.1) = false := by rfl) :
    FE X tp B fl (.Call (.Name x p) (e :: es) [] pos) (.o 0) (mMake c n fm mr) :=
  PE.imp (pe_make M F hr hg hm hb .nil hx ha hdb he hpl) fun σ H Q ⟨Fs, ρ, t, d, t', R, hm', q⟩ => by
    obtain ⟨⟨ds, t1⟩, h1, h2⟩ := bind_some hm'
    simp only at h2
    split at h2
    case isFalse => cases h2
    rename_i hl
    obtain ⟨⟨ks, es', t2⟩, h3, h4⟩ := bind_some h2
    simp only at h4
    split at h4
    case isFalse => cases h4
    rename_i hp
    cases h4
    refine ⟨Fs, ρ, t, ds, t1, R, h1, fun vs H1 r1 => ?_⟩
    have R1 := R.step r1.same r1.tape
    intro y dx ny ndx hne
    refine ⟨tp, t1, y, dx, vs, ds, ks, es', _, H1, by rw [List.append_nil], ny, ndx, rfl, r1.tape, hl, r1.rplB, h3, fun H' xs s e1 hkl rl ta => ⟨rfl, q _ _ ?_⟩⟩
    have sy : SameX tp H H' := r1.same.trans s
    have okH' := R1.ok.step s ta
    have yO : y ∉ ours tp Fs := R1.ok.new ny
    refine .mk0 sy ta (.obj hc (hid_of yO e1) hkl hp.1 rl.1 fun i v d h1 h2 => ?_)
    have pl : pln 8 d = true := List.all_eq_true.mp hp.2 d (List.mem_of_getElem? h2)
    refine Rp.noL (pln_noL 8 d pl) (((rl.2 i v d h1 h2).mono (hidT_step s)).mono hid_sub) okH'.ls
/-! __init__'s body: checks, then attributes one by one -/
inductive AS where
  | chk (m : EM) | par (f : Str) (i : Nat) | sc (f : Str) (m : EM)
def runI : List AS → Env → Tape → Option (List Str × List D × Tape)
  | [], _, t => some ([], [], t)
  | .chk m :: r, ρ, t => (m ρ t).bind fun p => runI r ρ p.2
  | .par f i :: r, ρ, t => match ρ[i]? with
    | some (some d) => (runI r ρ t).map fun p => (f :: p.1, d :: p.2.1, p.2.2)
    | _ => none
  | .sc f m :: r, ρ, t => (m ρ t).bind fun q => if q.1.sc.isSome then (runI r ρ q.2).map fun p => (f :: p.1, q.1 :: p.2.1, p.2.2) else none
/-- where __init__ stands -/
structure IAt (K : PySem.W.Frag) (tp : TP) (C : Addr) (N : Nat) (x dx : Addr) (H0 : Hp) (vs : List V) (ds : List D) (ks : List Str) (xs : List V) (es : List D) (σ : L2.St) (H : Hp) (t : Tape) : Prop where
  st : σ = some (.ref x) :: (vs.map some ++ List.replicate N none)
  nx : H0 x = none
  same : SameX tp H0 H
  ins : H x = some (.ins C dx (ks.zip xs))
  len : ks.length = xs.length
  tape : TapeAt tp H t
  args : RpL K tp (hid (tpl tp) H0) vs ds
  flds : RpL K tp (hid (tpl tp) H0) xs es
  nd : ks.Nodup
  lt : ks.length < 100
def tInit (K : PySem.W.Frag) (C : Addr) (n : Nat) (as : List AS) : TS := fun Z σ H => ∃ tp t N x dx H0 vs ds ks xs es ks' es' t', IAt K tp C N x dx H0 vs ds ks xs es σ H t ∧ vs.length + N + 1 = n ∧ runI as (none :: (ds.map some ++ List.replicate N none)) t = some (ks', es', t') ∧ (ks ++ ks').Nodup ∧ (ks ++ ks').length < 100 ∧
  ∀ σ' H' xs', IAt K tp C N x dx H0 vs ds (ks ++ ks') xs' (es ++ es') σ' H' t' → Z.nx σ' H'
theorem IAt.rel {K : PySem.W.Frag} {C : Addr} {N : Nat} {x dx : Addr} {H0 : Hp} {vs : List V} {ds : List D} {ks : List Str} {xs : List V} {es : List D} {σ : L2.St} {H : Hp} {t : Tape} (I : IAt K tp C N x dx H0 vs ds ks xs es σ H t) :
    RelF K tp (hid (tpl tp) H) (List.replicate (vs.length + N + 1) 0) ⟨[], List.replicate (vs.length + N + 1) []⟩ H σ (none :: (ds.map some ++ List.replicate N none)) t := by
  have e0 : ours tp ⟨[], List.replicate (vs.length + N + 1) []⟩ = tpl tp := by
    unfold ours
    have : (List.replicate (vs.length + N + 1) ([] : List Addr)).flatten = [] := by simp
    rw [this]; rfl
  have sl : σ.length = vs.length + N + 1 := by rw [I.st]; simp
  have hvl := I.args.1
  refine ⟨by simp [sl], by simp [sl]; omega, by simp [sl], ?_, I.tape, by rw [e0]; exact Same.refl _, fun a ha => ?_, fun i F _ h3 => ?_, fun i n' d' F hf hd hF => ?_⟩
  · rw [e0]
    cases htp : tp with
    | none => exact .nil
    | some p =>
      obtain ⟨p, c⟩ := p
      have := (I.tape p c htp).1
      simp [tpl, this]
  · have : (List.replicate (vs.length + N + 1) ([] : List Addr)).flatten = [] := by simp
    rw [List.nil_append, this] at ha; cases ha
  · have h3' : (List.replicate (vs.length + N + 1) ([] : List Addr))[i]? = some F := h3
    rw [List.getElem?_replicate] at h3'
    split at h3'
    · cases h3'; rfl
    · cases h3'
  · rw [List.getElem?_replicate] at hf
    have hF' : (List.replicate (vs.length + N + 1) ([] : List Addr))[i]? = some F := hF
    rw [List.getElem?_replicate] at hF'
    have hlt : i < vs.length + N + 1 := by
      by_cases z : i < vs.length + N + 1
      · exact z
      · rw [if_neg z] at hf; cases hf
    rw [if_pos hlt] at hf hF'
    cases hf
    cases hF'
    cases i with
    | zero => simp at hd
    | succ i =>
      rw [List.getElem?_cons_succ] at hd
      have hi : i < ds.length := by
        by_cases z : i < ds.length
        · exact z
        · rw [List.getElem?_append_right (by simpa using z), List.getElem?_replicate] at hd
          split at hd <;> cases hd
      rw [List.getElem?_append_left (by simpa using hi), List.getElem?_map] at hd
      have hdi : ds[i]? = some d' := by
        cases e : ds[i]? with
        | none => rw [e] at hd; cases hd
        | some z => rw [e] at hd; cases hd; rfl
      obtain ⟨v, ev, rv⟩ := I.args.get hdi
      refine ⟨v, ?_, ?_, rfl⟩
      · rw [I.st, List.getElem?_cons_succ, List.getElem?_append_left (by simp; omega), List.getElem?_map, ev]; rfl
      · rw [e0]; exact rv.mono (hidT_step I.same)
theorem putF_zip {f : Str} {y : V} : ∀ {ks : List Str} {xs : List V}, ks.length = xs.length → f ∉ ks → putF f y (ks.zip xs) = (ks ++ [f]).zip (xs ++ [y])
  | [], [], _, _ => rfl
  | [], _ :: _, h, _ => by simp at h
  | _ :: _, [], h, _ => by simp at h
  | k :: ks, x :: xs, h, n => by
    have hk : ¬ k = f := fun z => n (by rw [z]; exact List.mem_cons_self)
    show (if k = f then _ else _ :: putF f y (ks.zip xs)) = _
    rw [if_neg hk, putF_zip (by simpa using h) fun z => n (List.mem_cons_of_mem _ z)]
    rfl
theorem IAt.xt {K : PySem.W.Frag} {C : Addr} {N : Nat} {x dx : Addr} {H0 : Hp} {vs : List V} {ds : List D} {ks : List Str} {xs : List V} {es : List D} {σ : L2.St} {H : Hp} {t : Tape} (I : IAt K tp C N x dx H0 vs ds ks xs es σ H t) : x ∉ tpl tp := fun z => by
  obtain ⟨ys, e⟩ := I.tape.lists x z
  rw [I.ins] at e; cases e
theorem IAt.step {K : PySem.W.Frag} {C : Addr} {N : Nat} {x dx : Addr} {H0 : Hp} {vs : List V} {ds : List D} {ks : List Str} {xs : List V} {es : List D} {σ : L2.St} {H H' : Hp} {t t' : Tape} (I : IAt K tp C N x dx H0 vs ds ks xs es σ H t) (s : SameX tp H H') (ta : TapeAt tp H' t') : IAt K tp C N x dx H0 vs ds ks xs es σ H' t' :=
  ⟨I.st, I.nx, I.same.trans s, s _ _ I.ins I.xt, I.len, ta, I.args, I.flds, I.nd, I.lt⟩
/-- an attribute is stored -/
theorem IAt.put {K : PySem.W.Frag} {C : Addr} {N : Nat} {x dx : Addr} {H0 : Hp} {vs : List V} {ds : List D} {ks : List Str} {xs : List V} {es : List D} {σ : L2.St} {H : Hp} {t : Tape} (I : IAt K tp C N x dx H0 vs ds ks xs es σ H t) {f : Str} {y : V} {d : D} (hf : f ∉ ks) (hl : ks.length + 1 < 100) (ry : Rp K tp (hid (tpl tp) H0) y d) :
    IAt K tp C N x dx H0 vs ds (ks ++ [f]) (xs ++ [y]) (es ++ [d]) σ (upd H x (.ins C dx (putF f y (ks.zip xs)))) t := by
  refine ⟨I.st, I.nx, fun b o e nb => ?_, ?_, by simp [I.len], fun a c e => ?_, I.args, I.flds.append (.one ry), ?_, by simpa using hl⟩
  · rw [upd_ne (ne_of_none e I.nx)]; exact I.same b o e nb
  · rw [upd_same, putF_zip I.len hf]
  · obtain ⟨h1, h2, h3⟩ := I.tape a c e
    have xa : a ≠ x := fun z => I.xt (by rw [e, z]; exact List.mem_cons_self)
    have xc : c ≠ x := fun z => I.xt (by rw [e, z]; exact List.mem_cons_of_mem _ List.mem_cons_self)
    exact ⟨h1, by rw [upd_ne xa]; exact h2, by rw [upd_ne xc]; exact h3⟩
  · rw [List.nodup_append]
    exact ⟨I.nd, by simp, fun a ha b hb z => hf (by rw [← List.mem_singleton.mp hb, ← z]; exact ha)⟩
theorem tapeNew {p : Addr} {o : HO} {H : Hp} {t : Tape} (ta : TapeAt tp H t) (n : p ∉ tpl tp) : TapeAt tp (upd H p o) t := fun a c e => by
  obtain ⟨h1, h2, h3⟩ := ta a c e
  have xa : a ≠ p := fun z => n (by rw [e, ← z]; exact List.mem_cons_self)
  have xc : c ≠ p := fun z => n (by rw [e, ← z]; exact List.mem_cons_of_mem _ List.mem_cons_self)
  exact ⟨h1, by rw [upd_ne xa]; exact h2, by rw [upd_ne xc]; exact h3⟩
theorem PE.ex2 {α β : Type} {t : α → β → TE} (h : ∀ y z, PE X e (t y z)) : PE X e (fun σ H Q => ∃ y z, t y z σ H Q) := ⟨fun pins s σ H Q I ⟨y, z, q⟩ => (h y z).run pins s σ H Q I q⟩
theorem init_nil {C : Addr} {N : Nat} : PSs X [] (tInit X.K C N []) := PSs.imp pss_nil fun Z σ H ⟨tp, t, N', x, dx, H0, vs, ds, ks, xs, es, ks', es', t', I, hN, hr, hn, hl, q⟩ => by
  cases hr
  refine q σ H xs ?_
  rw [List.append_nil, List.append_nil]
  exact I
theorem init_chk {C : Addr} {n : Nat} {as : List AS} (he : ∀ tp B, FE X tp B (List.replicate n 0) e k m) (hr : PSs X sts (tInit X.K C n as)) (hs : swapsWith e none pos.line X.env = pure false := by rfl) : PSs X (.Expr e pos :: sts) (tInit X.K C n (.chk m :: as)) :=
  PSs.imp (pss_cons (ps_expr (PE.ex2 he) hs) hr) fun Z σ H ⟨tp, t, N', x, dx, H0, vs, ds, ks, xs, es, ks', es', t', J, hN, hrun, hn, hl, q⟩ => by
    obtain ⟨⟨d, t1⟩, h1, h2⟩ := bind_some hrun
    subst hN
    exact ⟨tp, _, _, _, _, d, t1, J.rel, h1, fun v H' r => ⟨tp, t1, N', x, dx, H0, vs, ds, ks, xs, es, ks', es', t', J.step r.same r.tape, rfl, h2, hn, hl, q⟩⟩
theorem init_sc {C : Addr} {n : Nat} {as : List AS} {c f slf : Str} {p p2 : Pos} (hc : PySem.W.nsIn X.K mainGlobals c = some (some (.ref C))) (cl : Cls X.K C) (na : NoAttr X.K C f) (he : ∀ tp B, FE X tp B (List.replicate n 0) e (.o 0) m) (hr : PSs X sts (tInit X.K C n as))
    (hN : X.N[0]? = some slf := by rfl) (hv : Vis X.env.scope slf := by first | exact Or.inl rfl | exact Or.inr (Or.inl rfl) | exact Or.inr (Or.inr rfl)) (hd : (slf == ("__debug__" : Str)) = false := by decide) (hcd : (slf == ("__classdict__" : Str)) = false := by decide)
    (hs : swapsWith e (some (.Attribute (.Name slf p) f p2)) pos.line X.env = pure false := by rfl) : PSs X (.Assign [.Attribute (.Name slf p) f p2] e pos :: sts) (tInit X.K C n (.sc f m :: as)) :=
  PSs.imp (pss_cons (ps_fld (pe_var hN hv hd hcd) (PE.ex2 he) hs) hr) fun Z σ H ⟨tp, t, N', x, dx, H0, vs, ds, ks, xs, es, ks', es', t', J, hN, hrun, hn, hl, q⟩ => by
    obtain ⟨⟨d, t1⟩, h1, h2⟩ := bind_some hrun
    simp only at h2
    split at h2
    case isFalse => cases h2
    rename_i hsc
    subst hN
    cases e3 : runI as (none :: (ds.map some ++ List.replicate N' none)) t1 with
    | none => rw [e3] at h2; cases h2
    | some r3 =>
      obtain ⟨k3, d3, t3⟩ := r3
      rw [e3] at h2
      cases h2
      refine ⟨tp, _, _, _, _, d, t1, J.rel, h1, fun y H' r => ?_⟩
      have J1 := J.step r.same r.tape
      have hf : f ∉ ks := fun z => by
        have := (List.nodup_append.mp hn).2.2 f z f List.mem_cons_self
        exact this rfl
      have ry : Rp X.K tp (hid (tpl tp) H0) y d := by
        obtain ⟨v, hv⟩ := Option.isSome_iff_exists.mp hsc
        have : y = v := by
          have i := (r.inn J.rel.ok).all
          cases d <;> simp [D.sc] at hv <;> subst hv
          · exact i.non_inv
          · exact i.bl_inv
          · exact i.int_inv
          · exact i.str_inv
        rw [this]; exact .of_sc hv
      have hl' : ks.length + 1 < 100 := by rw [List.length_append, List.length_cons] at hl; omega
      refine ⟨.ref x, by rw [J.st]; rfl, x, C, dx, _, rfl, J1.ins, cl, na, ?_, ?_⟩
      · have h2 := J.lt
        have h3 : (ks.zip xs).length < 100 := by rw [List.length_zip]; exact Nat.lt_of_le_of_lt (Nat.min_le_left _ _) h2
        omega
      · refine ⟨tp, t1, N', x, dx, H0, vs, ds, ks ++ [f], xs ++ [y], es ++ [d], k3, d3, _, J1.put hf hl' ry, rfl, e3, ?_, ?_, fun σ' H2 xs' I2 => ?_⟩
        · rw [List.append_assoc]; exact hn
        · rw [List.append_assoc]; exact hl
        · rw [List.append_assoc, List.append_assoc] at I2
          exact q _ _ _ I2
theorem init_par {C : Addr} {n : Nat} {as : List AS} {c f slf x : Str} {i : Nat} {p p2 p3 : Pos} (hc : PySem.W.nsIn X.K mainGlobals c = some (some (.ref C))) (cl : Cls X.K C) (na : NoAttr X.K C f) (hr : PSs X sts (tInit X.K C n as)) (hNi : X.N[i + 1]? = some x := by rfl) (hvi : Vis X.env.scope x := by first | exact Or.inl rfl | exact Or.inr (Or.inl rfl) | exact Or.inr (Or.inr rfl)) (hdi : (x == ("__debug__" : Str)) = false := by decide) (hcdi : (x == ("__classdict__" : Str)) = false := by decide)
    (hN : X.N[0]? = some slf := by rfl) (hv : Vis X.env.scope slf := by first | exact Or.inl rfl | exact Or.inr (Or.inl rfl) | exact Or.inr (Or.inr rfl)) (hd : (slf == ("__debug__" : Str)) = false := by decide) (hcd : (slf == ("__classdict__" : Str)) = false := by decide)
    (hs : swapsWith (.Name x p3) (some (.Attribute (.Name slf p) f p2)) pos.line X.env = pure false := by rfl) : PSs X (.Assign [.Attribute (.Name slf p) f p2] (.Name x p3) pos :: sts) (tInit X.K C n (.par f (i + 1) :: as)) :=
  PSs.imp (pss_cons (ps_fld (pe_var hN hv hd hcd) (pe_var hNi hvi hdi hcdi) hs) hr) fun Z σ H ⟨tp, t, N', z, dx, H0, vs, ds, ks, xs, es, ks', es', t', J, hN, hrun, hn, hl, q⟩ => by
    unfold runI at hrun
    split at hrun
    case h_2 => cases hrun
    rename_i d hd'
    subst hN
    cases e3 : runI as (none :: (ds.map some ++ List.replicate N' none)) t with
    | none => rw [e3] at hrun; cases hrun
    | some r3 =>
      obtain ⟨k3, d3, t3⟩ := r3
      rw [e3] at hrun
      cases hrun
      obtain ⟨y, ey, ow⟩ := J.rel.slot (i + 1) 0 d [] (by
        have := (List.getElem?_eq_some_iff.mp hd').1
        simp at this
        have hvl := J.args.1
        rw [List.getElem?_replicate, if_pos (by omega)]) hd' (by
        have := (List.getElem?_eq_some_iff.mp hd').1
        simp at this
        have hvl := J.args.1
        show (List.replicate (vs.length + N' + 1) ([] : List Addr))[i + 1]? = _
        rw [List.getElem?_replicate, if_pos (by omega)])
      have hi : i < ds.length := by
        by_cases c : i < ds.length
        · exact c
        · rw [List.getElem?_cons_succ, List.getElem?_append_right (by simpa using c), List.getElem?_replicate] at hd'
          split at hd' <;> cases hd'
      have hdi : ds[i]? = some d := by
        rw [List.getElem?_cons_succ, List.getElem?_append_left (by simpa using hi), List.getElem?_map] at hd'
        cases e : ds[i]? with
        | none => rw [e] at hd'; cases hd'
        | some z => rw [e] at hd'; cases hd'; rfl
      obtain ⟨y2, ey2, ry⟩ := J.args.get hdi
      have eyy : y2 = y := by
        have : σ[i + 1]? = some (some y2) := by
          rw [J.st, List.getElem?_cons_succ, List.getElem?_append_left (by have := J.args.1; simp; omega), List.getElem?_map, ey2]; rfl
        rw [ey] at this
        cases this; rfl
      subst eyy
      refine ⟨y2, ey, ?_⟩
      have hf : f ∉ ks := fun z => by
        have := (List.nodup_append.mp hn).2.2 f z f List.mem_cons_self
        exact this rfl
      have hl' : ks.length + 1 < 100 := by rw [List.length_append, List.length_cons] at hl; omega
      refine ⟨.ref z, by rw [J.st]; rfl, z, C, dx, _, rfl, J.ins, cl, na, ?_, ?_⟩
      · have h2 := J.lt
        have h3 : (ks.zip xs).length < 100 := by rw [List.length_zip]; exact Nat.lt_of_le_of_lt (Nat.min_le_left _ _) h2
        omega
      · refine ⟨tp, t, N', z, dx, H0, vs, ds, ks ++ [f], xs ++ [y2], es ++ [d], k3, d3, _, J.put hf hl' ry, rfl, e3, ?_, ?_, fun σ' H2 xs' I2 => ?_⟩
        · rw [List.append_assoc]; exact hn
        · rw [List.append_assoc]; exact hl
        · rw [List.append_assoc, List.append_assoc] at I2
          exact q _ _ _ I2
/-- __init__ by its body -/
def initM (N : Nat) (as : List AS) : FIM := fun ds t => (runI as (none :: (ds.map some ++ List.replicate (N - 1 - ds.length) none)) t).bind fun r => if r.1.Nodup ∧ r.1.length < 100 then some r else none
theorem init_ok {P : Program} {w : World} {K : PySem.W.Frag} {mg : Str → Option Value} {base : Heap} {x qual : Str} {st : Stmt} {f C : Addr} {fd : FuncData} {N ps : List Str} {p0 : Str} {j : Nat} {as : List AS} (F : Fun K x qual st f fd) (S : FnScope N (p0 :: ps) (defScope st))
    (h : ∀ (cdv : Value) (A : Around) (outer : List PySem.Env) (s : Shared) (H : Hp) (E : XK), Room j (A.deeper (envOfC qual (defScope st) s.heap.objs.size f cdv)) →
      PSs (cxOf CX0 P w K mg base N qual (defScope st) f cdv A outer s H E).nox (defBody st) (tInit K C N.length as)) :
    FnOk P w K mg base CX0 (j + 1) f fd (p0 :: ps) (spI K C ps.length (initM N.length as)) := by
  refine F.ok S (fun vs H Q E ⟨tp, t, x, dx, vs', ds, ks, es, t', H0, h1, h2, h3, h4, h5, h6, h7, h8, h9⟩ => by rw [h1, List.length_cons, List.length_cons, h7.1, h6]) fun cdv A outer s H vs Q E hr ⟨tp, t, x, dx, vs', ds, ks, es, t', H0, h1, h2, h3, h4, h5, h6, h7, h8, h9⟩ => ?_
  have hh := h cdv A outer s H E hr
  obtain ⟨r, e1, e2⟩ := bind_some h8
  split at e2
  case isFalse => cases e2
  rename_i hnd
  cases e2
  have hps : ps.length + 1 ≤ N.length := by
    have := congrArg List.length S.pre
    rw [List.length_take, List.length_cons] at this; omega
  have hvl := h7.1
  have hxt : x ∉ tpl tp := fun z => by
    obtain ⟨ys, e⟩ := h5.lists x z
    rw [h2] at e
    cases e
  have ta : TapeAt tp H t := by
    rw [h4]
    exact tapeNew (TapeAt.new h5 h3) hxt
  refine ⟨_, hh, tp, t, N.length - 1 - ds.length, x, dx, H0, vs', ds, [], [], [], ks, es, t', ⟨?_, h2, fun b o e nb => ?_, ?_, rfl, ta, h7, .nil, .nil, by decide⟩, by omega, e1, by simpa using hnd.1, by simpa using hnd.2, fun σ' H' xs' I => ?_⟩
  · subst h1
    unfold L2.start
    rw [List.map_cons, List.length_cons, List.cons_append, hvl]
    congr 3
    omega
  · rw [h4, upd_ne (ne_of_none e h2), upd_ne (ne_of_none e h3)]; exact e
  · rw [h4, upd_same]; rfl
  · have := I.ins
    rw [List.nil_append] at this
    have hf := I.flds
    rw [List.nil_append] at hf
    exact h9 H' xs' I.same this (by have := I.len; rwa [List.nil_append] at this) hf I.tape
end
end FL
set_option maxRecDepth 100000
set_option maxHeartbeats 1000000
noncomputable section
namespace FL
open PySem PySem.Spec PyProof.Rows L2
/-! ### x in y, x not in y -/
def flatD : D → Bool
  | .non => true
  | .bl _ => true
  | .int _ => true
  | .str _ => true
  | _ => false
def signOf (s : Str) : Option Nat := match s.cps.toList with
  | [c] => some c
  | _ => none
theorem signOf_some {s : Str} {c : Nat} (h : signOf s = some c) : s = ⟨#[c]⟩ := by
  unfold signOf at h
  split at h
  · rename_i d e
    cases h
    obtain ⟨⟨l⟩⟩ := s
    cases e; rfl
  · cases h
def oInN (neg : Bool) (x y : D) : Option D := match y with
  | .lst l => if shp 8 x && l.all (shp 8) then some (.bl (if neg then !l.any fun z => deq 8 z x else l.any fun z => deq 8 z x)) else none
  | .tup l => if flatD x && l.all flatD then some (.bl (if neg then !l.any fun z => deq 8 z x else l.any fun z => deq 8 z x)) else none
  | .str z => match x with
    | .str s => (signOf s).map fun c => .bl (if neg then !decide (c ∈ z.cps.toList) else decide (c ∈ z.cps.toList))
    | _ => none
  | _ => none
def oIn (x y : D) : Option D := oInN false x y
def oNotIn (x y : D) : Option D := oInN true x y
def rInA (K : PySem.W.Frag) : R2 := fun x y H Q => rInD K x y H Q ∨ rIn K false x y H Q ∨ ∃ (c : Nat) (z : Str), x = .str ⟨#[c]⟩ ∧ y = .str z ∧ Q (.bl (decide (c ∈ z.cps.toList))) H
def rNotInA (K : PySem.W.Frag) : R2 := fun x y H Q => rNotInD K x y H Q ∨ rIn K true x y H Q ∨ ∃ (c : Nat) (z : Str), x = .str ⟨#[c]⟩ ∧ y = .str z ∧ Q (.bl (!decide (c ∈ z.cps.toList))) H
theorem flat_rp {K : PySem.W.Frag} {tp : TP} {H : Hp} {v : V} {d : D} (h : Rp K tp H v d) (f : flatD d = true) : flatV v = true ∧ d.sc = some v := by
  cases h <;> simp [flatD] at f <;> exact ⟨rfl, rfl⟩
theorem flat_eq {a b : D} {v w : V} (ha : a.sc = some v) (hb : b.sc = some w) (n : Nat) : deq (n + 1) a b = eqV v w := by
  cases a <;> simp [D.sc] at ha <;> cases b <;> simp [D.sc] at hb <;> subst ha <;> subst hb <;> rfl
theorem flat_any {K : PySem.W.Frag} {tp : TP} {H : Hp} {x : V} {d : D} (hx : d.sc = some x) : ∀ {xs : List V} {ds : List D}, RpL K tp H xs ds → ds.all flatD = true → xs.all flatV = true ∧ (inV x xs = ds.any fun z => deq 8 z d)
  | [], [], _, _ => ⟨rfl, rfl⟩
  | [], _ :: _, r, _ => by have := r.1; simp at this
  | _ :: _, [], r, _ => by have := r.1; simp at this
  | v :: xs, e :: ds, r, h => by
    rw [List.all_cons, Bool.and_eq_true] at h
    obtain ⟨f1, f2⟩ := flat_rp r.head h.1
    obtain ⟨h1, h2⟩ := flat_any hx r.tail h.2
    refine ⟨by rw [List.all_cons, f1, h1]; rfl, ?_⟩
    rw [List.any_cons, ← h2, flat_eq f2 hx 7]; rfl
section
variable {X : Cx} {tp : TP} {B : Hp} {fl fl' fl1 ws vs : List Nat} {e e1 e2 e3 o a b tg iter elt : Expr} {es rest ifs : List Expr} {k ka kb kc : Kd} {m ma mb mc me : EM} {ba bb : BM} {mr : AM} {mi : IM} {g : GM} {pos : Pos} {lv n n1 n2 n3 : Nat} {lp fl2 : List Nat} {st : Stmt} {sts sts2 : List Stmt} {sm sm1 sm2 : SM}
theorem op_inA {j : Nat} (hr : Room j X.A) : OpR X (compareOp .In) (rInA X.K) := OpR.or (op_inD (by have := hr.un; omega)) (OpR.or op_in_seq op_in_sign)
theorem op_notInA {j : Nat} (hr : Room j X.A) : OpR X (compareOp .NotIn) (rNotInA X.K) := OpR.or (op_notInD (by have := hr.un; omega)) (OpR.or op_notIn_seq op_notIn_sign)
theorem any_py {x : D} (hx : shp 8 x = true) : ∀ {l : List D}, l.all (shp 8) = true → ((l.map (toPy 8)).any fun z => PyData.eqv z (toPy 8 x)) = l.any fun z => deq 8 z x
  | [], _ => rfl
  | a :: l, h => by
    rw [List.all_cons, Bool.and_eq_true] at h
    rw [List.map_cons, List.any_cons, List.any_cons, any_py hx h.2, deq_py 8 a x h.1 hx]
theorem od_in {K : PySem.W.Frag} : OpD K tp (rInA K) ka kb (.o 0) oIn := fun O H x y dx dy d t Q ok ta ix iy h q => by
  unfold oIn oInN at h
  split at h
  · rename_i l
    split at h
    · rename_i c
      rw [Bool.and_eq_true] at c
      cases h
      refine .inl ⟨toPy 8 dx, l.map (toPy 8), ix.all.dp 8 _ _ c.1, iy.all.dp 9 _ (.lst l) c.2, shaped_of (by decide) c.1, shaped_of (n := 9) (d := .lst l) (by decide) c.2, ?_⟩
      rw [any_py c.1 c.2]
      exact q _ _ (.sc ta rfl)
    · cases h
  · rename_i l
    split at h
    · rename_i c
      rw [Bool.and_eq_true] at c
      cases h
      obtain ⟨f1, f2⟩ := flat_rp ix.all c.1
      obtain ⟨p, xs, rfl, hs, rl⟩ := iy.all.tupL
      obtain ⟨g1, g2⟩ := flat_any f2 rl c.2
      refine .inr (.inl ⟨p, xs, rfl, .inr hs, f1, g1, ?_⟩)
      rw [g2]
      exact q _ _ (.sc ta rfl)
    · cases h
  · rename_i z
    split at h
    · rename_i s
      cases hs : signOf s with
      | none => rw [hs] at h; cases h
      | some c =>
        rw [hs] at h
        cases h
        have es := signOf_some hs
        exact .inr (.inr ⟨c, z, by rw [← es]; exact ix.all.str_inv, iy.all.str_inv, q _ _ (.sc ta rfl)⟩)
    · cases h
  · cases h
theorem od_notIn {K : PySem.W.Frag} : OpD K tp (rNotInA K) ka kb (.o 0) oNotIn := fun O H x y dx dy d t Q ok ta ix iy h q => by
  unfold oNotIn oInN at h
  split at h
  · rename_i l
    split at h
    · rename_i c
      rw [Bool.and_eq_true] at c
      cases h
      refine .inl ⟨toPy 8 dx, l.map (toPy 8), ix.all.dp 8 _ _ c.1, iy.all.dp 9 _ (.lst l) c.2, shaped_of (by decide) c.1, shaped_of (n := 9) (d := .lst l) (by decide) c.2, ?_⟩
      rw [any_py c.1 c.2]
      exact q _ _ (.sc ta rfl)
    · cases h
  · rename_i l
    split at h
    · rename_i c
      rw [Bool.and_eq_true] at c
      cases h
      obtain ⟨f1, f2⟩ := flat_rp ix.all c.1
      obtain ⟨p, xs, rfl, hs, rl⟩ := iy.all.tupL
      obtain ⟨g1, g2⟩ := flat_any f2 rl c.2
      refine .inr (.inl ⟨p, xs, rfl, .inr hs, f1, g1, ?_⟩)
      rw [g2]
      exact q _ _ (.sc ta rfl)
    · cases h
  · rename_i z
    split at h
    · rename_i s
      cases hs : signOf s with
      | none => rw [hs] at h; cases h
      | some c =>
        rw [hs] at h
        cases h
        have es := signOf_some hs
        exact .inr (.inr ⟨c, z, by rw [← es]; exact ix.all.str_inv, iy.all.str_inv, q _ _ (.sc ta rfl)⟩)
    · cases h
  · cases h
end
end FL
set_option maxRecDepth 100000
set_option maxHeartbeats 1000000
noncomputable section
namespace FL
open PySem PySem.Spec PyProof.Rows L2
section
variable {X : Cx} {tp : TP} {B : Hp} {fl fl' fl1 ws vs : List Nat} {e e1 e2 e3 o a b tg iter elt : Expr} {es rest ifs : List Expr} {k ka kb kc : Kd} {m ma mb mc me : EM} {ba bb : BM} {mr : AM} {mi : IM} {g : GM} {pos : Pos} {lv n n1 n2 n3 : Nat} {lp fl2 : List Nat} {st : Stmt} {sts sts2 : List Stmt} {sm sm1 sm2 : SM}
/-! ### methods of texts -/
def mBm (g : D → List D → Option D) (mo : EM) (mr : AM) : EM := fun ρ t => (mo ρ t).bind fun p => (mr ρ p.2).bind fun q => (g p.1 q.1).map fun d => (d, q.2)
/-- r serves g at texts -/
def MtD (K : PySem.W.Frag) (tp : TP) (r : V → List V → Hp → VK → Prop) (ka k : Kd) (g : D → List D → Option D) : Prop :=
  ∀ (O : List Addr) (H : Hp) (x : Str) (vs : List V) (ds : List D) (d : D) (t : Tape) (Q : VK), Ok tp O H → TapeAt tp H t → vs.length = ds.length → (∀ (i : Nat) (v : V) (d : D), vs[i]? = some v → ds[i]? = some d → In K tp O H ka v d) → g (.str x) ds = some d → (∀ v H', Res K tp O H k d t v H' → Q v H') → r (.str x) vs H Q
theorem fe_bmS {id : String} {nm : Str} {apos cpos : Pos} {r : V → List V → Hp → VK → Prop} {gg : D → List D → Option D} (slot : Slot "str" nm id) (hty : typeOf (.builtin id) = pure (.type "method_descriptor")) (hm : MtR X id r) (hd : MtD X.K tp r ka k gg) (hg : ∀ d ds, (∀ s, d ≠ .str s) → gg d ds = none) (ho : FE X tp B fl o kb mb) (ha : FA X tp B fl (e :: es) ka mr)
    (hbase : attributeBase o nm X.env (eval o X.env) = eval o X.env := by rfl)
    (hfew : ((backTo cpos (starEach (e :: es) X.env)).all (fun x => !x.1) && (backToKw cpos (keywordEach [] X.env)).all (fun x => x.1.isSome)
      && decide ((e :: es).length + ([] : List Keyword).length + (if ([] : List Keyword).isEmpty then 0 else 1) < 30)) = true := by rfl)
    (hline : (apos.endLine == cpos.line) = true := by rfl) (hs : starEach (e :: es) X.env = (false, eval e X.env) :: starEach es X.env := by rfl) (hplain : (backTo cpos (starEach es X.env)).any (·.1) = false := by rfl) :
    FE X tp B fl (.Call (.Attribute o nm apos) (e :: es) [] cpos) k (mBm gg mb mr) :=
  PE.imp (pe_bm PySem.F.plainAttrs_str slot hty hm ho ha hbase hfew hline hs hplain) fun σ H Q ⟨Fs, ρ, t, d, t', R, hm', q⟩ => by
    obtain ⟨⟨x, t1⟩, h1, h2⟩ := bind_some hm'
    obtain ⟨⟨ds, t2⟩, h3, h4⟩ := bind_some h2
    simp only at h3 h4
    cases h5 : gg x ds with
    | none => rw [h5] at h4; cases h4
    | some y =>
      rw [h5] at h4
      cases h4
      have hx : ∃ s, x = .str s := Classical.byContradiction fun z => by
        rw [hg x ds fun s e => z ⟨s, e⟩] at h5; cases h5
      obtain ⟨s, rfl⟩ := hx
      refine ⟨Fs, ρ, t, _, t1, R, h1, fun v H1 r1 => ?_⟩
      have R1 := R.step r1.same r1.tape
      have ev : v = .str s := (r1.inn R.ok).all.str_inv
      subst ev
      refine ⟨rfl, Fs, ρ, t1, ds, _, R1, h3, fun vs H2 r2 => ?_⟩
      have R2 := R1.step r2.same r2.tape
      exact hd (ours tp Fs) H2 s vs ds _ _ Q R2.ok r2.tape r2.len r2.val h5 fun v H' r3 => q v H' (.trans (r1.same.trans r2.same) r2.tape r3)
/-- s.index(t), t in s -/
def gSIndex (x : D) (ds : List D) : Option D := match x, ds with
  | .str a, [.str b] => (Builtin.Str.occurrences a b 0 a.length 1).head?.map fun i => .int (i : Nat)
  | _, _ => none
theorem gSIndex_no (d : D) (ds : List D) (h : ∀ s, d ≠ .str s) : gSIndex d ds = none := by
  unfold gSIndex
  split
  · exact absurd rfl (h _)
  · rfl
theorem md_sindex {K : PySem.W.Frag} : MtD K tp (fun x xs H Q => ∃ a b i rest, x = .str a ∧ xs = [.str b] ∧ Builtin.Str.occurrences a b 0 a.length 1 = i :: rest ∧ Q (.int (i : Nat)) H) ka (.o 0) gSIndex := fun O H x vs ds d t Q ok ta l r h q => by
  unfold gSIndex at h
  split at h
  · rename_i a b heq
    cases heq
    obtain ⟨v, rfl, i⟩ := one_of l r
    cases e : Builtin.Str.occurrences x b 0 x.length 1 with
    | nil => rw [e] at h; cases h
    | cons j rest =>
      rw [e] at h
      cases h
      exact ⟨x, b, j, rest, rfl, by rw [i.all.str_inv], e, q _ _ (.sc ta rfl)⟩
  · cases h
/-- s.join(texts) -/
def strsOf : List D → Option (List Str)
  | [] => some []
  | .str s :: l => (strsOf l).map fun r => s :: r
  | _ :: _ => none
theorem strs_rp {K : PySem.W.Frag} {H : Hp} : ∀ {l : List D} {ys : List Str} {xs : List V}, strsOf l = some ys → RpL K tp H xs l → xs = ys.map V.str
  | [], _, [], h, _ => by cases h; rfl
  | [], _, _ :: _, _, r => by have := r.1; simp at this
  | d :: l, ys, [], _, r => by have := r.1; simp at this
  | d :: l, ys, x :: xs, h, r => by
    cases d with
    | str s =>
      unfold strsOf at h
      cases e : strsOf l with
      | none => rw [e] at h; cases h
      | some zs =>
        rw [e] at h
        cases h
        rw [strs_rp e r.tail, r.head.str_inv]; rfl
    | _ => cases h
def joinOk (a : Str) (ys : List Str) : Bool := @decide ((ys.map (·.length)).sum + ys.length * a.length ≤ 16777216) (Classical.propDecidable _)
def gJoin (x : D) (ds : List D) : Option D := match x, ds with
  | .str a, [.lst l] => (strsOf l).bind fun ys => if joinOk a ys = true then some (.str (Txt.join a ys)) else none
  | .str a, [.tup l] => (strsOf l).bind fun ys => if joinOk a ys = true then some (.str (Txt.join a ys)) else none
  | _, _ => none
theorem gJoin_no (d : D) (ds : List D) (h : ∀ s, d ≠ .str s) : gJoin d ds = none := by
  unfold gJoin
  split
  · exact absurd rfl (h _)
  · exact absurd rfl (h _)
  · rfl
theorem md_join {K : PySem.W.Frag} : MtD K tp (fun x xs H Q => ∃ a p, ∃ ys : List Str, x = .str a ∧ xs = [.ref p] ∧ (SqL K H p (ys.map V.str) ∨ SqT K H p (ys.map V.str)) ∧ (ys.map (·.length)).sum + ys.length * a.length ≤ 16777216 ∧ Q (.str (Txt.join a ys)) H) ka (.o 0) gJoin := fun O H x vs ds d t Q ok ta l r h q => by
  unfold gJoin at h
  split at h
  · rename_i a l' heq
    cases heq
    obtain ⟨v, rfl, i⟩ := one_of l r
    obtain ⟨ys, h1, h2⟩ := bind_some h
    split at h2
    case isFalse => cases h2
    rename_i hj
    cases h2
    obtain ⟨p, xs, rfl, hs, rl⟩ := i.all.lstL
    have := strs_rp h1 rl
    subst this
    exact ⟨x, p, ys, rfl, rfl, .inl (.inl (.inl hs)), @of_decide_eq_true _ (Classical.propDecidable _) hj, q _ _ (.sc ta rfl)⟩
  · rename_i a l' heq
    cases heq
    obtain ⟨v, rfl, i⟩ := one_of l r
    obtain ⟨ys, h1, h2⟩ := bind_some h
    split at h2
    case isFalse => cases h2
    rename_i hj
    cases h2
    obtain ⟨p, xs, rfl, hs, rl⟩ := i.all.tupL
    have := strs_rp h1 rl
    subst this
    exact ⟨x, p, ys, rfl, rfl, .inr hs, @of_decide_eq_true _ (Classical.propDecidable _) hj, q _ _ (.sc ta rfl)⟩
  · cases h
/-! three names, of any levels -/
theorem RelF.store3 {K : PySem.W.Frag} {Fs : Ow} {H H1 H2 H3 : Hp} {σ : L2.St} {ρ : Env} {t t1 t2 t3 : Tape} (R : RelF K tp B fl Fs H σ ρ t) {v w u : V} {d1 d2 d3 : D} {F G J : List Addr} (s1 : SameX tp H H1) (ta1 : TapeAt tp H1 t1) (nd : F.Nodup) (hF : ∀ a ∈ F, H a = none) (ow : OwnN K tp n1 (hid (F ++ ours tp Fs) H1) H1 v d1 F)
    (s2 : SameX tp H1 H2) (ta2 : TapeAt tp H2 t2) (ndG : G.Nodup) (hG : ∀ a ∈ G, H1 a = none) (owG : OwnN K tp n2 (hid (G ++ ours tp ⟨F ++ Fs.e, Fs.s⟩) H2) H2 w d2 G)
    (s3 : SameX tp H2 H3) (ta3 : TapeAt tp H3 t3) (ndJ : J.Nodup) (hJ : ∀ a ∈ J, H2 a = none) (owJ : OwnN K tp n3 (hid (J ++ ours tp ⟨G ++ (F ++ Fs.e), Fs.s⟩) H3) H3 u d3 J) (i j l : Nat) (hij : i ≠ j) (hil : i ≠ l) (hjl : j ≠ l) :
    RelF K tp B (((fl.set i n1).set j n2).set l n3) ⟨Fs.e, ((Fs.s.set l J).set j G).set i F⟩ H3 (((σ.set i (some v)).set j (some w)).set l (some u)) (((ρ.set i (some d1)).set j (some d2)).set l (some d3)) t3 := by
  have ex1 := R.ext s1 ta1 nd hF ow.lists
  have ex2 := ex1.ext s2 ta2 ndG hG owG.lists
  have ex3 := ex2.ext s3 ta3 ndJ hJ owJ.lists
  have nt : ∀ {Z : Hp} {E : List Addr}, TapeAt tp Z t → (∀ a ∈ E, Z a = none) → ∀ b ∈ E, b ∉ tpl tp := fun ta hE b hb z => by
    obtain ⟨ys, e⟩ := ta.lists b z
    rw [hE b hb] at e; cases e
  have Ft : ∀ b ∈ F, b ∉ tpl tp := fun b hb z => by
    obtain ⟨ys, e⟩ := R.tape.lists b z
    rw [hF b hb] at e; cases e
  have Gt : ∀ b ∈ G, b ∉ tpl tp := fun b hb z => by
    obtain ⟨ys, e⟩ := ta1.lists b z
    rw [hG b hb] at e; cases e
  have st1 := RelF.store (F := J) (E := G ++ (F ++ Fs.e)) (S := Fs.s) ex3 l (by rw [ours_ext J ⟨G ++ (F ++ Fs.e), Fs.s⟩]; exact owJ)
  have owG' : OwnN K tp n2 (hid (ours tp ⟨G ++ (F ++ Fs.e), Fs.s.set l J⟩) H3) H3 w d2 G := by
    refine owG.mono (fun b u q => ?_) fun b u hb hu => s3 b u hu (Gt b hb)
    obtain ⟨q1, q2⟩ := hid_some q
    rw [← ours_ext G ⟨F ++ Fs.e, Fs.s⟩] at q1
    refine hid_of (fun z => ?_) (s3 b u q2 fun z => q1 (RelF.tsub b z))
    rcases List.mem_append.mp z with z | z
    · rcases List.mem_append.mp z with z | z
      · exact q1 (List.mem_append_left _ (List.mem_append_left _ z))
      · rcases mem_flatten_set z with z | z
        · rw [hJ b z] at q2; cases q2
        · exact q1 (List.mem_append_left _ (List.mem_append_right _ z))
    · exact q1 (RelF.tsub b z)
  have st2 := RelF.store (F := G) (E := F ++ Fs.e) (S := Fs.s.set l J) st1 j owG'
  have ow' : OwnN K tp n1 (hid (ours tp ⟨F ++ Fs.e, (Fs.s.set l J).set j G⟩) H3) H3 v d1 F := by
    refine ow.mono (fun b u q => ?_) fun b u hb hu => s3 b u (s2 b u hu (Ft b hb)) (Ft b hb)
    obtain ⟨q1, q2⟩ := hid_some q
    rw [← ours_ext F Fs] at q1
    have nb : b ∉ tpl tp := fun z => q1 (RelF.tsub b z)
    have q3 := s2 b u q2 nb
    refine hid_of (fun z => ?_) (s3 b u q3 nb)
    rcases List.mem_append.mp z with z | z
    · rcases List.mem_append.mp z with z | z
      · exact q1 (List.mem_append_left _ (List.mem_append_left _ z))
      · rcases mem_flatten_set z with z | z
        · rw [hG b z] at q2; cases q2
        · rcases mem_flatten_set z with z | z
          · rw [hJ b z] at q3; cases q3
          · exact q1 (List.mem_append_left _ (List.mem_append_right _ z))
    · exact nb z
  have st3 := RelF.store (F := F) (E := Fs.e) (S := (Fs.s.set l J).set j G) st2 i ow'
  have c1 : ∀ {α : Type} (L : List α) (x y z : α), ((L.set l z).set j y).set i x = ((L.set i x).set j y).set l z := fun L x y z => by
    rw [List.set_comm _ _ (Ne.symm hjl), List.set_comm _ _ (Ne.symm hil), List.set_comm _ _ (Ne.symm hij)]
  rw [c1 fl, c1 σ, c1 ρ] at st3
  exact st3
theorem fs_par3N (i j l : Nat) {x y z : Str} {px py pz pt : Pos} {kt k2 pt2} (hc : X.calm = true) (hN : X.N.Nodup) (ha : FE X tp B fl e1 (.o n1) ma) (hb : FE X tp B fl e2 (.o n2) mb) (hcc : FE X tp B fl e3 (.o n3) mc)
    (hw : swappedStores [.Tuple [.Name x px, .Name y py, .Name z pz] kt pt] (.Tuple [e1, e2, e3] k2 pt2) X.env = pure (some [x, y, z])) (hij : i ≠ j := by decide) (hil : i ≠ l := by decide) (hjl : j ≠ l := by decide) (hi : X.N[i]? = some x := by rfl) (hj : X.N[j]? = some y := by rfl) (hl : X.N[l]? = some z := by rfl)
    (hx : X.env.scope.names.lookup x = some .local := by rfl) (hy : X.env.scope.names.lookup y = some .local := by rfl) (hz : X.env.scope.names.lookup z = some .local := by rfl)
    (h1 : starEach (e1 :: [e2, e3]) X.env = (false, eval e1 X.env) :: starEach [e2, e3] X.env := by rfl) (h2 : starEach (e2 :: [e3]) X.env = (false, eval e2 X.env) :: starEach [e3] X.env := by rfl) (h3 : starEach (e3 :: []) X.env = (false, eval e3 X.env) :: starEach [] X.env := by rfl)
    (hs : swapsWithSole [.Tuple [.Name x px, .Name y py, .Name z pz] kt pt] (.Tuple [e1, e2, e3] k2 pt2) pos.line X.env = pure false := by rfl) (hfl : fl' = ((fl.set i n1).set j n2).set l n3 := by rfl) :
    FS X tp B lv lp fl fl' (.Assign [.Tuple [.Name x px, .Name y py, .Name z pz] kt pt] (.Tuple [e1, e2, e3] k2 pt2) pos) (mPar3 i j l ma mb mc) :=
  PS.imp (ps_par3 hc hN hi hj hl hij hil hjl hx hy hz (pa_cons ha (pa_cons hb (pa_cons hcc pa_nil h3) h2) h1) hw hs) fun D σ H ⟨Fs, ρ, t, o, R, hm, q⟩ => by
    obtain ⟨⟨d1, t1⟩, h1, h2⟩ := bind_some hm
    obtain ⟨⟨d2, t2⟩, h3, h4⟩ := bind_some h2
    simp only at h3 h4
    cases h5 : mc ρ t2 with
    | none => rw [h5] at h4; cases h4
    | some p =>
      obtain ⟨d3, t3⟩ := p
      rw [h5] at h4
      cases h4
      subst hfl
      refine ⟨Fs, ρ, t, d1, t1, R, h1, fun v1 H1 r1 => ?_⟩
      obtain ⟨F, nd, hF, ow⟩ := r1.val
      have ex1 := R.ext r1.same r1.tape nd hF ow.lists
      refine ⟨⟨F ++ Fs.e, Fs.s⟩, ρ, t1, d2, t2, ex1, h3, fun v2 H2 r2 => ?_⟩
      obtain ⟨G, ndG, hG, owG⟩ := r2.val
      have ex2 := ex1.ext r2.same r2.tape ndG hG owG.lists
      refine ⟨⟨G ++ (F ++ Fs.e), Fs.s⟩, ρ, t2, d3, t3, ex2, h5, fun v3 H3 r3 => ?_⟩
      obtain ⟨J, ndJ, hJ, owJ⟩ := r3.val
      exact ⟨v1, v2, v3, rfl, q _ _ _ (R.store3 r1.same r1.tape nd hF ow r2.same r2.tape ndG hG owG r3.same r3.tape ndJ hJ owJ i j l hij hil hjl)⟩
end
end FL
set_option maxRecDepth 100000
set_option maxHeartbeats 1000000
noncomputable section
namespace FL
open PySem PySem.Spec PyProof.Rows L2
/-! ### tuples of ours are handed back -/
def plnT (lv : Nat) : D → Bool
  | .tup l => l.all (plnL lv)
  | _ => false
section
variable {X : Cx} {tp : TP} {B : Hp} {fl fl' fl1 ws vs : List Nat} {e e1 e2 e3 o a b tg iter elt : Expr} {es rest ifs : List Expr} {k ka kb kc : Kd} {m ma mb mc me : EM} {ba bb : BM} {mr : AM} {mi : IM} {g : GM} {pos : Pos} {lv n n1 n2 n3 : Nat} {lp fl2 : List Nat} {st : Stmt} {sts sts2 : List Stmt} {sm sm1 sm2 : SM}
def mCallT (n lv : Nat) (f : FM) (ma : AM) : EM := fun ρ t => (ma ρ t).bind fun p => if p.1.length = n then (f p.1 p.2).bind fun q => if plnT lv q.1 then some q else none else none
theorem mCallT_some {f : FM} {ma : AM} {ρ : Env} {t t' : Tape} {d : D} (h : mCallT n lv f ma ρ t = some (d, t')) : ∃ ds t1, ma ρ t = some (ds, t1) ∧ ds.length = n ∧ f ds t1 = some (d, t') ∧ plnT lv d = true := by
  obtain ⟨⟨ds, t1⟩, h1, h2⟩ := bind_some h
  simp only at h2
  split at h2
  case isFalse => cases h2
  rename_i hl
  obtain ⟨⟨d', t2⟩, h3, h4⟩ := bind_some h2
  simp only at h4
  split at h4
  case isFalse => cases h4
  rename_i hp
  cases h4
  exact ⟨ds, t1, h1, hl, h3, hp⟩
theorem ret_resT {K : PySem.W.Frag} {Fs : Ow} {H H' : Hp} {σ : L2.St} {ρ : Env} {t t' : Tape} {d : D} {v : V} (R : RelF K tp B fl Fs H σ ρ t) (hp : plnT lv d = true) (r : Ret K tp H (1000 + lv) d t' v H') : Res K tp (ours tp Fs) H (.o 0) d t' v H' := by
  have rv := r.val
  rcases rv with ⟨hl, _⟩ | ⟨_, F, a, xs, ds, hF, rfl, rfl, hs, hl, its⟩
  · omega
  rw [Nat.add_sub_cancel_left] at its
  have okH' := R.ok.step r.same r.tape
  have notO : ∀ z ∈ F, z ∉ ours tp Fs := fun z hz => R.ok.new (hF z hz)
  refine .mk0 r.same r.tape (.tup ?_ hl fun i v d h1 h2 => ?_)
  · rcases hs with (hs | ⟨o, hs⟩) | hs
    · refine .inl (.inl (hid_of (fun z => ?_) (hid_some hs).2))
      obtain ⟨ys, e⟩ := okH'.ls a z
      rw [(hid_some hs).2] at e; cases e
    · refine .inl (.inr ⟨o, hid_of (fun z => ?_) (hid_some hs).2⟩)
      obtain ⟨ys, e⟩ := okH'.ls a z
      rw [(hid_some hs).2] at e; cases e
    · exact .inr hs
  · obtain ⟨Fi, hFi, ow⟩ := its i v d h1 h2
    have pl : plnL lv d = true := List.all_eq_true.mp hp d (List.mem_of_getElem? h2)
    have ow2 := OwnN.pln (Hg := H) (O := ours tp Fs) lv pl ow hid_sub okH'.ls
    exact ow2.rpIn (Same.refl _) fun b u hb hu => hid_of (notO b (hFi b hb)) hu
theorem fe_callT {CX : CXT} {j : Nat} {f : Addr} {fd : FuncData} {ps : List Str} {x : Str} {p : Pos} {E : XK} {fm : FM} (F : FnOk X.prog X.w X.K X.mg X.base CX j f fd ps (spD X.K n (1000 + lv) fm)) (hr : Room j X.A) (hg : Gl X x) (hm : X.mg x = some (.ref f)) (hk : PySem.W.keepIn X.K (.ref f) = true) (hb : Binds X.K fd ps []) (hx : Passes CX X E)
    (ha : FA X tp B fl (e :: es) .b mr) (hdb : (x == ("__debug__" : Str)) = false := by decide) (he : starEach (e :: es) X.env = (false, eval e X.env) :: starEach es X.env := by rfl) (hpl : (backTo pos (starEach es X.env)).any (·.1) = false := by rfl) :
    FE X tp B fl (.Call (.Name x p) (e :: es) [] pos) (.o 0) (mCallT n lv fm mr) :=
  PE.imp (pe_call F hr hg hm hk hb .nil hx ha hdb he hpl) fun σ H Q ⟨Fs, ρ, t, d, t', R, hm', q⟩ => by
    obtain ⟨ds, t1, h1, hl, h2, hp⟩ := mCallT_some hm'
    refine ⟨Fs, ρ, t, ds, t1, R, h1, fun vs H1 r1 => ?_⟩
    have R1 := R.step r1.same r1.tape
    refine ⟨tp, t1, ds, d, t', r1.tape, hl, ?_, h2, fun v H' r => q v H' (.trans r1.same r1.tape (ret_resT R1 hp r))⟩
    rw [List.append_nil]
    exact r1.rplB
def mMethT (c m : Str) (n lv : Nat) (f : FM) (mo : EM) (ma : AM) : EM := fun ρ t => (mo ρ t).bind fun o => match o.1 with
  | .obj c' ks ds => if c' = c ∧ ks.contains m = false then (ma ρ o.2).bind fun p => if p.1.length + 1 = n then (f (.obj c' ks ds :: p.1) p.2).bind fun q => if plnT lv q.1 then some q else none else none else none
  | _ => none
theorem mMethT_some {c m : Str} {f : FM} {mo : EM} {ma : AM} {ρ : Env} {t t' : Tape} {d : D} (h : mMethT c m n lv f mo ma ρ t = some (d, t')) : ∃ ks ds t1 as t2, mo ρ t = some (.obj c ks ds, t1) ∧ ks.contains m = false ∧ ma ρ t1 = some (as, t2) ∧ as.length + 1 = n ∧ f (.obj c ks ds :: as) t2 = some (d, t') ∧ plnT lv d = true := by
  obtain ⟨⟨x, t1⟩, h1, h2⟩ := bind_some h
  simp only at h2
  split at h2
  case h_2 => cases h2
  rename_i c' ks ds
  split at h2
  case isFalse => cases h2
  rename_i ec
  obtain ⟨rfl, hk⟩ := ec
  obtain ⟨⟨as, t2⟩, h3, h4⟩ := bind_some h2
  simp only at h4
  split at h4
  case isFalse => cases h4
  rename_i hl
  obtain ⟨⟨d', t3⟩, h5, h6⟩ := bind_some h4
  simp only at h6
  split at h6
  case isFalse => cases h6
  rename_i hp
  cases h6
  exact ⟨ks, ds, t1, as, t2, h1, hk, h3, hl, h5, hp⟩
theorem fe_methT {CX : CXT} {j : Nat} {f C : Addr} {fd : FuncData} {ps : List Str} {c x : Str} {apos : Pos} {E : XK} {fm : FM} {pl : Sem Bool} (hc : PySem.W.nsIn X.K mainGlobals c = some (some (.ref C))) (cl : Cls X.K C) (hm : Meth X.K C x f) (F : FnOk X.prog X.w X.K X.mg X.base CX j f fd ps (spD X.K n (1000 + lv) fm)) (hr : Room j X.A) (hb : Binds X.K fd ps []) (hx : Passes CX X E)
    (ho : FE X tp B fl o (.o 0) ma) (ha : FA X tp B fl (e :: es) .b mr)
    (hst : starEach (e :: es) X.env = (false, eval e X.env) :: starEach es X.env := by rfl) (hpl : (backTo pos (starEach es X.env)).any (·.1) = false := by rfl)
    (ht : eval (.Call (.Attribute o x apos) (e :: es) [] pos) X.env = (do
      let ov ← eval o X.env
      standAt apos.atName
      let (f, first) ← holding [ov] (getMethod ov x pl)
      callWith pos f first (backTo pos (starEach (e :: es) X.env)) (backToKw pos (keywordEach [] X.env))) := by rfl) :
    FE X tp B fl (.Call (.Attribute o x apos) (e :: es) [] pos) (.o 0) (mMethT c x n lv fm ma mr) :=
  PE.imp (pe_meth ho cl hm F hr hb .nil hx ha hst hpl ht) fun σ H Q ⟨Fs, ρ, t, d, t', R, hm', q⟩ => by
    obtain ⟨ks, ds, t1, as, t2, h1, hk, h2, hl, h3, hp⟩ := mMethT_some hm'
    refine ⟨Fs, ρ, t, _, t1, R, h1, fun v H1 r1 => ?_⟩
    have R1 := R.step r1.same r1.tape
    have rv := r1.frz R.ok
    obtain ⟨a, dx, xs, rfl, ha', rl⟩ := rv.obj_inv hc
    refine ⟨a, dx, _, rfl, (hid_some ha').2, look_none hk, Fs, ρ, t1, as, t2, R1, h2, fun vs H2 r2 => ?_⟩
    have R2 := R1.step r2.same r2.tape
    refine ⟨tp, t2, _ :: as, d, t', r2.tape, by rw [List.length_cons]; exact hl, ?_, h3, fun v H' r => q v H' (.trans r1.same r1.tape (.trans r2.same r2.tape (ret_resT R2 hp r)))⟩
    rw [List.append_nil]
    exact .cons ((r1.inn R.ok).brw R1.ok |>.mono (hidT_step r2.same)) r2.rplB
/-- return (x, y, z), all of level n -/
theorem fs_retT3 (i j l : Nat) {x y z : Str} {px py pz tpos : Pos} {kt} (hfi : fl[i]? = some n) (hfj : fl[j]? = some n) (hfl : fl[l]? = some n) (hi : X.N[i]? = some x := by rfl) (hj : X.N[j]? = some y := by rfl) (hl : X.N[l]? = some z := by rfl)
    (hvx : Vis X.env.scope x := by first | exact Or.inl rfl | exact Or.inr (Or.inl rfl) | exact Or.inr (Or.inr rfl)) (hvy : Vis X.env.scope y := by first | exact Or.inl rfl | exact Or.inr (Or.inl rfl) | exact Or.inr (Or.inr rfl)) (hvz : Vis X.env.scope z := by first | exact Or.inl rfl | exact Or.inr (Or.inl rfl) | exact Or.inr (Or.inr rfl))
    (h1 : starEach (.Name x px :: [.Name y py, .Name z pz]) X.env = (false, eval (.Name x px) X.env) :: starEach [.Name y py, .Name z pz] X.env := by rfl) (h2 : starEach (.Name y py :: [.Name z pz]) X.env = (false, eval (.Name y py) X.env) :: starEach [.Name z pz] X.env := by rfl) (h3 : starEach (.Name z pz :: []) X.env = (false, eval (.Name z pz) X.env) :: starEach [] X.env := by rfl)
    (hdx : (x == ("__debug__" : Str)) = false := by decide) (hcx : (x == ("__classdict__" : Str)) = false := by decide) (hdy : (y == ("__debug__" : Str)) = false := by decide) (hcy : (y == ("__classdict__" : Str)) = false := by decide) (hdz : (z == ("__debug__" : Str)) = false := by decide) (hcz : (z == ("__classdict__" : Str)) = false := by decide) :
    FS X tp B (1000 + n) lp fl fl' (.Return (some (.Tuple [.Name x px, .Name y py, .Name z pz] kt tpos)) pos) (mRet (mTup (mCons (mVar i) (mCons (mVar j) (mCons (mVar l) mNil))))) :=
  PS.imp (ps_ret (pe_tup (pa_cons (pe_var hi hvx hdx hcx) (pa_cons (pe_var hj hvy hdy hcy) (pa_cons (pe_var hl hvz hdz hcz) pa_nil h3) h2) h1))) fun Z σ H ⟨Fs, ρ, t, o, R, hm, q⟩ => by
    obtain ⟨d, t', e1, rfl⟩ := mRet_some hm
    obtain ⟨ds, e2, hsm, rfl⟩ := mTup_some e1
    obtain ⟨d1, t1, es1, g1, g2, rfl⟩ := mCons_some e2
    obtain ⟨d2, t2, es2, g3, g4, rfl⟩ := mCons_some g2
    obtain ⟨d3, t3, es3, g5, g6, rfl⟩ := mCons_some g4
    cases g6
    obtain ⟨r1, rfl⟩ := mVar_some g1
    obtain ⟨r2, rfl⟩ := mVar_some g3
    obtain ⟨r3, rfl⟩ := mVar_some g5
    have len : ∀ {i : Nat} {d : D}, ρ[i]? = some (some d) → i < Fs.s.length := fun {i d} h => by rw [R.l3, ← R.l2]; exact (List.getElem?_eq_some_iff.mp h).1
    obtain ⟨v1, ev1, ow1⟩ := R.slot i n _ _ hfi r1 (List.getElem?_eq_getElem (len r1))
    obtain ⟨v2, ev2, ow2⟩ := R.slot j n _ _ hfj r2 (List.getElem?_eq_getElem (len r2))
    obtain ⟨v3, ev3, ow3⟩ := R.slot l n _ _ hfl r3 (List.getElem?_eq_getElem (len r3))
    generalize hF1 : Fs.s[i]'(len r1) = F1 at *
    generalize hF2 : Fs.s[j]'(len r2) = F2 at *
    generalize hF3 : Fs.s[l]'(len r3) = F3 at *
    have sub : ∀ a ∈ F1 ++ (F2 ++ F3), a ∈ Fs.e ++ Fs.s.flatten := fun a ha => List.mem_append_right _ (by
      rcases List.mem_append.mp ha with h | h
      · exact List.mem_flatten.mpr ⟨_, by rw [← hF1]; exact List.getElem_mem _, h⟩
      · rcases List.mem_append.mp h with h | h
        · exact List.mem_flatten.mpr ⟨_, by rw [← hF2]; exact List.getElem_mem _, h⟩
        · exact List.mem_flatten.mpr ⟨_, by rw [← hF3]; exact List.getElem_mem _, h⟩)
    have subO : ∀ a ∈ (F1 ++ (F2 ++ F3)) ++ tpl tp, a ∈ ours tp Fs := fun a ha => by
      rcases List.mem_append.mp ha with h | h
      · exact List.mem_append_left _ (sub a h)
      · exact RelF.tsub a h
    refine ⟨v1, ev1, v2, ev2, v3, ev3, by show 3 ≤ sizeLine; decide, fun p hp => q (.ref p) _ ⟨R.tape.new hp, base_in R (.new hp), .inr ⟨by omega, F1 ++ (F2 ++ F3), p, [v1, v2, v3], [d1, d2, d3], fun a ha => ⟨ours_base R (subO a (List.mem_append_left _ ha)), fun z => (List.nodup_append.mp R.nd).2.2 a (sub a ha) a z rfl⟩, rfl, rfl, .inl (.inl (hid_of (fun z => R.ok.new hp (subO p z)) upd_same)), rfl, ?_⟩⟩⟩
    have mv : ∀ {v : V} {d : D} {F : List Addr}, OwnN X.K tp n (hid (ours tp Fs) H) H v d F → OwnN X.K tp (1000 + n - 1000) (hid ((F1 ++ (F2 ++ F3)) ++ tpl tp) (upd H p (.tup [v1, v2, v3]))) (upd H p (.tup [v1, v2, v3])) v d F := fun {v d F} ow => by
      rw [Nat.add_sub_cancel_left]
      refine ow.mono (fun b u hb => ?_) fun b u _ hu => by rw [upd_ne (ne_of_none hu hp)]; exact hu
      obtain ⟨b1, b2⟩ := hid_some hb
      exact hid_of (fun z => b1 (subO b z)) (by rw [upd_ne (ne_of_none b2 hp)]; exact b2)
    intro i' v d hv hd
    match i', hv, hd with
    | 0, hv, hd => cases hv; cases hd; exact ⟨F1, fun z hz => List.mem_append_left _ hz, mv ow1⟩
    | 1, hv, hd => cases hv; cases hd; exact ⟨F2, fun z hz => List.mem_append_right _ (List.mem_append_left _ hz), mv ow2⟩
    | 2, hv, hd => cases hv; cases hd; exact ⟨F3, fun z hz => List.mem_append_right _ (List.mem_append_right _ hz), mv ow3⟩
    | i' + 3, hv, hd => simp at hv
end
end FL
set_option maxRecDepth 100000
set_option maxHeartbeats 1000000
noncomputable section
namespace FL
open PySem PySem.Spec PyProof.Rows L2
/-! ### lists of frozen items that are changed within expressions: pop -/
abbrev EMX := Env → Tape → Option (D × Env × Tape)
def tX (K : PySem.W.Frag) (tp : TP) (B : Hp) (fl : List Nat) (m : EMX) : TE := fun σ H Q => ∃ Fs ρ t d ρ' t', RelF K tp B fl Fs H σ ρ t ∧ m ρ t = some (d, ρ', t') ∧
  ∀ v H' Fs', RelF K tp B fl Fs' H' σ ρ' t' → Rp K tp (hid (ours tp Fs') H') v d → (∀ w d, Rp K tp (hid (ours tp Fs) H) w d → Rp K tp (hid (ours tp Fs') H') w d) → Q v H'
def FX (X : Cx) (tp : TP) (B : Hp) (fl : List Nat) (e : Expr) (m : EMX) : Prop := PE X e (tX X.K tp B fl m)
section
variable {K : PySem.W.Frag} {tp : TP} {B H H' : Hp} {fl : List Nat} {Fs : Ow} {σ : L2.St} {ρ : Env} {t t' : Tape} {d : D} {v : V} {i : Nat} {l ds : List D}
theorem RelF.get1 (R : RelF K tp B fl Fs H σ ρ t) (hf : fl[i]? = some 1) (hl : ρ[i]? = some (some (.lst l))) : ∃ p xs, σ[i]? = some (some (.ref p)) ∧ H p = some (.lst xs) ∧ RpL K tp (hid (ours tp Fs) H) xs l ∧ p ∉ tpl tp ∧ p ∈ ours tp Fs ∧ Fs.s[i]? = some [p] := by
  have hi : i < Fs.s.length := by rw [R.l3, ← R.l2]; exact (List.getElem?_eq_some_iff.mp hl).1
  obtain ⟨v, ev, ow⟩ := R.slot i 1 _ _ hf hl (List.getElem?_eq_getElem hi)
  obtain ⟨p, xs, ds, rfl, e2, hp, rl, eF⟩ := own1 ow
  cases e2
  have hpS : p ∈ Fs.s.flatten := List.mem_flatten.mpr ⟨_, List.getElem_mem hi, by rw [eF]; exact List.mem_singleton.mpr rfl⟩
  exact ⟨p, xs, ev, hp, rl, fun z => (List.nodup_append.mp R.nd).2.2 p (List.mem_append_right _ hpS) p z rfl, List.mem_append_left _ (List.mem_append_right _ hpS), by rw [List.getElem?_eq_getElem hi, eF]⟩
theorem RelF.put1 (R : RelF K tp B fl Fs H σ ρ t) (hf : fl[i]? = some 1) {p : Addr} {ys : List V} (hv : σ[i]? = some (some (.ref p))) (hs : Fs.s[i]? = some [p]) (r : RpL K tp (hid (ours tp Fs) H) ys ds) :
    RelF K tp B fl Fs (upd H p (.lst ys)) σ (ρ.set i (some (.lst ds))) t := by
  have q := RelF.mut (F := []) (E := Fs.e) (S := Fs.s) R i (n := 0) (G := [p]) (G' := [p]) (a := p) (ys := ys) (v := .ref p) (d := .lst ds) hf hs (List.mem_singleton.mpr rfl) (fun b hb => .inl hb) (by simp) hv
    ⟨p, ys, ds, List.replicate ds.length [], rfl, rfl, upd_same, r.1, by simp, by simp, fun j v d Fj h1 h2 h3 => by
      rw [List.getElem?_replicate] at h3
      split at h3
      · cases h3; exact ⟨r.2 j v d h1 h2, rfl⟩
      · cases h3⟩
  have e : Fs.s.set i [p] = Fs.s := by
    refine List.ext_getElem? fun j => ?_
    by_cases c : i = j
    · subst c
      rw [List.getElem?_set_self (List.getElem?_eq_some_iff.mp hs).1, hs]
    · rw [List.getElem?_set_ne c]
  rw [e] at q
  exact q
theorem RpL.erase {xs : List V} {Hf : Hp} (r : RpL K tp Hf xs l) (k : Nat) : RpL K tp Hf (xs.eraseIdx k) (l.eraseIdx k) := by
  refine ⟨?_, fun j v d h1 h2 => ?_⟩
  · rw [List.length_eraseIdx, List.length_eraseIdx, r.1]
  · rw [List.getElem?_eraseIdx] at h1 h2
    by_cases c : j < k
    · rw [if_pos c] at h1 h2; exact r.2 _ _ _ h1 h2
    · rw [if_neg c] at h1 h2; exact r.2 _ _ _ h1 h2
end
section
variable {X : Cx} {tp : TP} {B : Hp} {fl fl' fl1 ws vs : List Nat} {e e1 e2 e3 o a b tg iter elt : Expr} {es rest ifs : List Expr} {k ka kb kc : Kd} {m ma mb mc me : EM} {mx : EMX} {ba bb : BM} {mr : AM} {mi : IM} {g : GM} {pos : Pos} {lv n n1 n2 n3 : Nat} {lp fl2 : List Nat} {st : Stmt} {sts sts2 : List Stmt} {sm sm1 sm2 : SM}
/-- x.pop() -/
def mPop (i : Nat) : EMX := fun ρ t => match ρ[i]? with
  | some (some (.lst l)) => (l[l.length - 1]?).map fun d => (d, ρ.set i (some (.lst l.dropLast)), t)
  | _ => none
theorem RpL.dropLast {K : PySem.W.Frag} {Hf : Hp} {xs : List V} {l : List D} (r : RpL K tp Hf xs l) : RpL K tp Hf xs.dropLast l.dropLast := by
  refine ⟨by rw [List.length_dropLast, List.length_dropLast, r.1], fun j v d h1 h2 => ?_⟩
  rw [List.getElem?_dropLast] at h1 h2
  split at h1
  · rw [if_pos (by rw [← r.1]; assumption)] at h2
    exact r.2 _ _ _ h1 h2
  · cases h1
theorem fx_pop (i : Nat) {x : Str} {xp apos cpos : Pos} (hf : fl[i]? = some 1) (hN : X.N[i]? = some x := by rfl) (hv : Vis X.env.scope x := by first | exact Or.inl rfl | exact Or.inr (Or.inl rfl) | exact Or.inr (Or.inr rfl)) (hd : (x == ("__debug__" : Str)) = false := by decide)
    (hcd : (x == ("__classdict__" : Str)) = false := by decide) (hbase : attributeBase (.Name x xp) "pop" X.env (eval (.Name x xp) X.env) = eval (.Name x xp) X.env := by rfl)
    (hline : (apos.endLine == cpos.line) = true := by rfl) : FX X tp B fl (.Call (.Attribute (.Name x xp) "pop" apos) [] [] cpos) (mPop i) :=
  PE.imp (pe_bm0 PySem.F.plainAttrs_list PySem.F.slot_list_pop PySem.F.type_list_pop mt_pop (pe_var hN hv hd hcd) hbase hline) fun σ H Q ⟨Fs, ρ, t, d, ρ', t', R, hm, q⟩ => by
    unfold mPop at hm
    split at hm
    case h_2 => cases hm
    rename_i l hl
    cases e : l[l.length - 1]? with
    | none => rw [e] at hm; cases hm
    | some y =>
      rw [e] at hm
      cases hm
      obtain ⟨p, xs, hσ, hp, rl, nt, hO, hs⟩ := R.get1 hf hl
      obtain ⟨w, hw⟩ : ∃ w, xs[xs.length - 1]? = some w := ⟨_, List.getElem?_eq_getElem (by have := (List.getElem?_eq_some_iff.mp e).1; rw [rl.1]; exact this)⟩
      have hyw := rl.2 _ _ _ hw (by rw [rl.1]; exact e)
      have R' := R.put1 hf hσ hs rl.dropLast
      refine ⟨.ref p, hσ, tyL hp, p, xs, w, rfl, rfl, hp, hw, q _ _ Fs R' (by rw [hid_upd hO]; exact hyw) fun w d h => by rw [hid_upd hO]; exact h⟩
/-- x.pop(k) -/
def mPopAt (i : Nat) (m : EM) : EMX := fun ρ t => (m ρ t).bind fun p => match ρ[i]?, p.1 with
  | some (some (.lst l)), .int j => if small l then (ixN l.length j).bind fun k => (l[k]?).map fun d => (d, ρ.set i (some (.lst (l.eraseIdx k))), p.2) else none
  | _, _ => none
theorem fx_popAt (i : Nat) {x : Str} {xp apos cpos : Pos} (hf : fl[i]? = some 1) (he : FE X tp B fl e (.o 0) me) (hN : X.N[i]? = some x := by rfl) (hv : Vis X.env.scope x := by first | exact Or.inl rfl | exact Or.inr (Or.inl rfl) | exact Or.inr (Or.inr rfl)) (hd : (x == ("__debug__" : Str)) = false := by decide)
    (hcd : (x == ("__classdict__" : Str)) = false := by decide) (hbase : attributeBase (.Name x xp) "pop" X.env (eval (.Name x xp) X.env) = eval (.Name x xp) X.env := by rfl)
    (hfew : ((backTo cpos (starEach (e :: []) X.env)).all (fun x => !x.1) && (backToKw cpos (keywordEach [] X.env)).all (fun x => x.1.isSome) && decide ((e :: ([] : List Expr)).length + ([] : List Keyword).length + (if ([] : List Keyword).isEmpty then 0 else 1) < 30)) = true := by rfl)
    (hline : (apos.endLine == cpos.line) = true := by rfl) (hs : starEach (e :: []) X.env = (false, eval e X.env) :: starEach [] X.env := by rfl) (hplain : (backTo cpos (starEach [] X.env)).any (·.1) = false := by rfl) :
    FX X tp B fl (.Call (.Attribute (.Name x xp) "pop" apos) [e] [] cpos) (mPopAt i me) :=
  PE.imp (pe_bm PySem.F.plainAttrs_list PySem.F.slot_list_pop PySem.F.type_list_pop mt_popAt (pe_var hN hv hd hcd) (pa_cons he pa_nil hs) hbase hfew hline hs hplain) fun σ H Q ⟨Fs, ρ, t, d, ρ', t', R, hm, q⟩ => by
    obtain ⟨⟨dj, t1⟩, h1, h2⟩ := bind_some hm
    simp only at h2
    split at h2
    case h_2 => cases h2
    rename_i l j hl
    split at h2
    case isFalse => cases h2
    rename_i hsm
    obtain ⟨k, ek, h3⟩ := bind_some h2
    cases e : l[k]? with
    | none => rw [e] at h3; cases h3
    | some y =>
      rw [e] at h3
      cases h3
      obtain ⟨p, xs, hσ, hp, rl, nt, hO, hs'⟩ := R.get1 hf hl
      refine ⟨.ref p, hσ, tyL hp, Fs, ρ, t, _, _, R, h1, fun v1 H1 r1 => ?_⟩
      have R1 := R.step r1.same r1.tape
      obtain ⟨p', xs', hσ', hp', rl', nt', hO', hs''⟩ := R1.get1 hf hl
      rw [hσ] at hσ'
      cases hσ'
      obtain ⟨w, hw⟩ : ∃ w, xs'[k]? = some w := ⟨_, List.getElem?_eq_getElem (by have := (List.getElem?_eq_some_iff.mp e).1; rw [rl'.1]; exact this)⟩
      have hyw := rl'.2 _ _ _ hw e
      have R' := R1.put1 hf hσ hs'' (rl'.erase k)
      have sq := ixN_seq ek
      refine ⟨p, xs', j, k, w, rfl, by rw [(r1.inn R.ok).all.int_inv], hp', ?_, ?_, by rw [rl'.1]; exact sq.1, hw, q _ _ Fs R' (by rw [hid_upd hO']; exact hyw) fun w d h => by rw [hid_upd hO']; exact h.mono (hid_step R.ok r1.same)⟩
      all_goals
        have := of_sml hsm
        have h6 : sizeLine < 2 ^ 63 := by decide
        omega
/-- a statement that is such an expression -/
def mDropX (m : EMX) : SM := fun ρ t => (m ρ t).map fun p => .nx p.2.1 p.2.2
theorem fs_exprX (h : FX X tp B fl e mx) (hs : swapsWith e none pos.line X.env = pure false := by rfl) : FS X tp B lv lp fl fl (.Expr e pos) (mDropX mx) := PS.imp (ps_expr h hs) fun Z σ H ⟨Fs, ρ, t, o, R, hm, q⟩ => by
  unfold mDropX at hm
  cases e : mx ρ t with
  | none => rw [e] at hm; cases hm
  | some p =>
    rw [e] at hm; cases hm
    exact ⟨Fs, ρ, t, p.1, p.2.1, p.2.2, R, e, fun v H' Fs' R' _ _ => q _ _ _ R'⟩
/-- name = .. -/
def mSetX (i : Nat) (m : EMX) : SM := fun ρ t => (m ρ t).map fun p => .nx (p.2.1.set i (some p.1)) p.2.2
theorem fs_setX (i : Nat) {x : Str} {pos' : Pos} (hN : X.N.Nodup) (h : FX X tp B fl e mx) (hi : X.N[i]? = some x := by rfl) (hx : Loc X.env.scope x := by first | exact Or.inl rfl | exact Or.inr rfl) (hf : X.fn x = true ∨ X.env.scope.names.lookup x = some .local := by first | exact .inl rfl | exact .inr rfl)
    (hs : swapsWith e (some (.Name x pos')) pos.line X.env = pure false := by rfl) (hfl : fl' = fl.set i 0 := by rfl) : FS X tp B lv lp fl fl' (.Assign [.Name x pos'] e pos) (mSetX i mx) :=
  PS.imp (ps_set hN hi hx h hs hf) fun Z σ H ⟨Fs, ρ, t, o, R, hm, q⟩ => by
    unfold mSetX at hm
    cases e : mx ρ t with
    | none => rw [e] at hm; cases hm
    | some p =>
      rw [e] at hm; cases hm
      subst hfl
      refine ⟨Fs, ρ, t, p.1, p.2.1, p.2.2, R, e, fun v H' Fs' R' hv _ => ?_⟩
      exact q _ _ _ (RelF.store (F := []) (E := Fs'.e) (S := Fs'.s) (n := 0) (d := p.1) R' i ⟨hv, rfl⟩)
/-- f(a, b), b such an expression -/
def mCallX (f : FM) (ma : EM) (mb : EMX) : EMX := fun ρ t => (ma ρ t).bind fun p => (mb ρ p.2).bind fun q => (f [p.1, q.1] q.2.2).bind fun r => if plnL 0 r.1 then some (r.1, q.2.1, r.2) else none
theorem fx_call2 {CX : CXT} {j : Nat} {f : Addr} {fd : FuncData} {ps : List Str} {x : Str} {p : Pos} {E : XK} {fm : FM} (F : FnOk X.prog X.w X.K X.mg X.base CX j f fd ps (spD X.K 2 0 fm)) (hr : Room j X.A) (hg : Gl X x) (hm : X.mg x = some (.ref f)) (hk : PySem.W.keepIn X.K (.ref f) = true) (hb : Binds X.K fd ps []) (hx : Passes CX X E)
    (ha : FE X tp B fl a (.o 0) ma) (hb2 : FX X tp B fl b mx) (hdb : (x == ("__debug__" : Str)) = false := by decide) (he : starEach (a :: [b]) X.env = (false, eval a X.env) :: starEach [b] X.env := by rfl) (he2 : starEach (b :: []) X.env = (false, eval b X.env) :: starEach [] X.env := by rfl) (hpl : (backTo pos (starEach [b] X.env)).any (·.1) = false := by rfl) :
    FX X tp B fl (.Call (.Name x p) [a, b] [] pos) (mCallX fm ma mx) :=
  PE.imp (pe_call F hr hg hm hk hb .nil hx (pa_cons ha (pa_cons hb2 pa_nil he2) he) hdb he hpl) fun σ H Q ⟨Fs, ρ, t, d, ρ', t', R, hm', q⟩ => by
    obtain ⟨⟨d1, t1⟩, h1, h2⟩ := bind_some hm'
    obtain ⟨⟨d2, ρ2, t2⟩, h3, h4⟩ := bind_some h2
    obtain ⟨⟨d3, t3⟩, h5, h6⟩ := bind_some h4
    simp only at h3 h5 h6
    split at h6
    case isFalse => cases h6
    rename_i hp
    cases h6
    refine ⟨Fs, ρ, t, d1, t1, R, h1, fun v1 H1 r1 => ?_⟩
    have R1 := R.step r1.same r1.tape
    refine ⟨Fs, ρ, t1, d2, _, t2, R1, h3, fun v2 H2 Fs' R2 hv2 keep => ?_⟩
    have hv1 := keep _ _ (r1.frz R.ok)
    refine ⟨tp, t2, [d1, d2], d, t', R2.tape, rfl, ?_, h5, fun v H' r => ?_⟩
    · have brw : ∀ {v : V} {d : D}, Rp X.K tp (hid (ours tp Fs') H2) v d → Rp X.K tp (hid (tpl tp) H2) v d := fun h => In.brw (k := .o 0) R2.ok h
      exact .cons (brw hv1) (.cons (brw hv2) .nil)
    · have r3 := ret_res R2 (by decide) hp r
      exact q v H' Fs' (R2.step r3.same r3.tape) (r3.frz R2.ok) fun w d h => (keep w d (h.mono (hid_step R.ok r1.same))).mono (hid_step R2.ok r3.same)
/-- x.append(..) -/
def mAppX (i : Nat) (m : EMX) : SM := fun ρ t => match ρ[i]? with
  | some (some (.lst _)) => (m ρ t).bind fun p => match p.2.1[i]? with
    | some (some (.lst l)) => if small l then some (.nx (p.2.1.set i (some (.lst (l ++ [p.1])))) p.2.2) else none
    | _ => none
  | _ => none
theorem fs_appX (i : Nat) {x : Str} {xp apos cpos : Pos} (hf : fl[i]? = some 1) (he : FX X tp B fl e mx) (hN : X.N[i]? = some x := by rfl) (hv : Vis X.env.scope x := by first | exact Or.inl rfl | exact Or.inr (Or.inl rfl) | exact Or.inr (Or.inr rfl)) (hd : (x == ("__debug__" : Str)) = false := by decide)
    (hcd : (x == ("__classdict__" : Str)) = false := by decide) (hbase : attributeBase (.Name x xp) "append" X.env (eval (.Name x xp) X.env) = eval (.Name x xp) X.env := by rfl)
    (hfew : ((backTo cpos (starEach (e :: []) X.env)).all (fun x => !x.1) && (backToKw cpos (keywordEach [] X.env)).all (fun x => x.1.isSome) && decide ((e :: ([] : List Expr)).length + ([] : List Keyword).length + (if ([] : List Keyword).isEmpty then 0 else 1) < 30)) = true := by rfl)
    (hline : (apos.endLine == cpos.line) = true := by rfl) (hs : starEach (e :: []) X.env = (false, eval e X.env) :: starEach [] X.env := by rfl) (hplain : (backTo cpos (starEach [] X.env)).any (·.1) = false := by rfl)
    (hsw : swapsWith (.Call (.Attribute (.Name x xp) "append" apos) [e] [] cpos) none pos.line X.env = pure false := by rfl) :
    FS X tp B lv lp fl fl (.Expr (.Call (.Attribute (.Name x xp) "append" apos) [e] [] cpos) pos) (mAppX i mx) :=
  PS.imp (ps_expr (pe_bm PySem.F.plainAttrs_list PySem.F.slot_list_append PySem.F.type_list_append mt_append (pe_var hN hv hd hcd) (pa_cons he pa_nil hs) hbase hfew hline hs hplain) hsw) fun D σ H ⟨Fs, ρ, t, o, R, hm, q⟩ => by
    unfold mAppX at hm
    split at hm
    case h_2 => cases hm
    rename_i l0 hl0
    obtain ⟨⟨d, ρ1, t1⟩, h1, h2⟩ := bind_some hm
    simp only at h2
    split at h2
    case h_2 => cases h2
    rename_i l hl
    split at h2
    case isFalse => cases h2
    rename_i hsm
    cases h2
    obtain ⟨p, xs, hσ, hp, rl, nt, hO, hs'⟩ := R.get1 hf hl0
    refine ⟨.ref p, hσ, tyL hp, Fs, ρ, t, d, ρ1, t1, R, h1, fun v1 H1 Fs1 R1 hv1 _ => ?_⟩
    obtain ⟨p', xs', hσ', hp', rl', nt', hO', hs''⟩ := R1.get1 hf hl
    rw [hσ] at hσ'
    cases hσ'
    refine ⟨p, xs', v1, rfl, rfl, hp', ?_, q _ _ _ (R1.put1 hf hσ hs'' (rl'.append (.cons hv1 .nil)))⟩
    rw [rl'.1]; exact Nat.lt_of_le_of_lt (of_sml hsm) (by decide)
/-- o[i] of a list, by values -/
theorem get_list : PGet X (rIxL X.K) := by
  intro pins s σ H x y v u Q I rx ry h
  obtain ⟨p, xs, i, z, rfl, rfl, hq, he, q⟩ := h
  cases rx
  obtain ⟨t, rfl⟩ := ry
  obtain ⟨its, r, pl, hz⟩ := I.list hq
  obtain ⟨j, h1, h2, h3, h4, h5⟩ := atI_get he
  obtain ⟨w, ew, rw'⟩ := r.get h2
  have hl := r.length
  have hn := line63
  have fin : EP X pins σ Q w s := ⟨z, H, I, rw', q⟩
  by_cases h0 : 0 ≤ i
  · have hj : i.toNat = j := by
      rw [seqIndex_of h0 h5] at h1
      exact Option.some.inj h1
    exact wpAny_getItem_list pl.isList h0 (by omega) (by rw [hj]; simpa using ew) fin
  · have hj : (i + (its.toArray.size : Int)).toNat = j := by
      rw [seqIndex_neg (by omega) h4] at h1
      rw [List.size_toArray, ← hl]
      exact Option.some.inj h1
    exact wpAny_getItem_list_neg pl.isList (by omega) (by rw [List.size_toArray] <;> omega) (by omega) (by rw [hj]; simpa using ew) fin
theorem RpL.setI {K : PySem.W.Frag} {tp : TP} {Hf : Hp} {xs : List V} {l : List D} {v : V} {d : D} (r : RpL K tp Hf xs l) (k : Nat) (h : Rp K tp Hf v d) : RpL K tp Hf (xs.set k v) (l.set k d) := by
  refine ⟨by simp [r.1], fun j v' d' h1 h2 => ?_⟩
  by_cases c : k = j
  · subst c
    have hk := (List.getElem?_eq_some_iff.mp h1).1
    have hk2 := (List.getElem?_eq_some_iff.mp h2).1
    rw [List.getElem?_set_self (by simpa using hk)] at h1
    rw [List.getElem?_set_self (by simpa using hk2)] at h2
    cases h1; cases h2; exact h
  · rw [List.getElem?_set_ne c] at h1 h2
    exact r.2 _ _ _ h1 h2
/-- x[i] += e, whole numbers -/
def mAugI (i : Nat) (f : Int → Int → Int) (mx me : EM) : SM := fun ρ t => (mx ρ t).bind fun p => match ρ[i]?, p.1 with
  | some (some (.lst l)), .int j => (ixN l.length j).bind fun z => match l[z]? with
    | some (.int a) => (me ρ p.2).bind fun q => match q.1 with
      | .int b => some (.nx (ρ.set i (some (.lst (l.set z (.int (f a b)))))) q.2)
      | _ => none
    | _ => none
  | _, _ => none
theorem fs_augI (i : Nat) {x : Str} {op : Operator} {f : Int → Int → Int} {xp sp : Pos} (hf : fl[i]? = some 1) (ho : PIp X op (ipI f)) (hx : FE X tp B fl e1 (.o 0) ma) (he : FE X tp B fl e (.o 0) me) (hN : X.N[i]? = some x := by rfl) (hv : Vis X.env.scope x := by first | exact Or.inl rfl | exact Or.inr (Or.inl rfl) | exact Or.inr (Or.inr rfl)) (hd : (x == ("__debug__" : Str)) = false := by decide)
    (hcd : (x == ("__classdict__" : Str)) = false := by decide)
    (ha : ∀ ov iv new, augStore e1 ov iv new = (do holding [new, ov, iv] (setItem ov iv new); release [new, ov, iv] []; pure .next) := by intros; rfl) :
    FS X tp B lv lp fl fl (.AugAssign (.Subscript (.Name x xp) e1 sp) op e pos) (mAugI i f ma me) :=
  PS.imp (ps_augS (pe_var hN hv hd hcd) hx get_list he ho set_list ha) fun D σ H ⟨Fs, ρ, t, o, R, hm, q⟩ => by
    obtain ⟨⟨dj, t1⟩, h1, h2⟩ := bind_some hm
    simp only at h2
    split at h2
    case h_2 => cases h2
    rename_i l j hl
    obtain ⟨z, ez, h3⟩ := bind_some h2
    split at h3
    case h_2 => cases h3
    rename_i a0 hla
    obtain ⟨⟨db, t2⟩, h4, h5⟩ := bind_some h3
    simp only at h5
    split at h5
    case h_2 => cases h5
    rename_i b0
    cases h5
    obtain ⟨p, xs, hσ, hp, rl, nt, hO, hs'⟩ := R.get1 hf hl
    refine ⟨.ref p, hσ, Fs, ρ, t, _, _, R, h1, fun v1 H1 r1 => ?_⟩
    have R1 := R.step r1.same r1.tape
    obtain ⟨p', xs', hσ', hp', rl', nt', hO', hs''⟩ := R1.get1 hf hl
    rw [hσ] at hσ'
    cases hσ'
    obtain ⟨w, hw⟩ : ∃ w, xs'[z]? = some w := ⟨_, List.getElem?_eq_getElem (by have := (List.getElem?_eq_some_iff.mp hla).1; rw [rl'.1]; exact this)⟩
    have hwi : w = .int a0 := (rl'.2 _ _ _ hw hla).int_inv
    subst hwi
    refine ⟨p, xs', j, .int a0, rfl, (r1.inn R.ok).all.int_inv, (.inl (.inl hp')), by unfold atI; rw [rl'.1, ez]; exact hw, Fs, ρ, _, _, _, R1, h4, fun v2 H2 r2 => ?_⟩
    have R2 := R1.step r2.same r2.tape
    obtain ⟨p'', xs'', hσ'', hp'', rl'', nt'', hO'', hs3⟩ := R2.get1 hf hl
    rw [hσ] at hσ''
    cases hσ''
    refine ⟨a0, b0, rfl, (r2.inn R1.ok).all.int_inv, p, xs'', j, z, rfl, (r1.inn R.ok).all.int_inv, hp'', by rw [rl''.1]; exact ez, ?_⟩
    exact q _ _ _ (R2.put1 hf hσ hs3 (rl''.setI z (.of_sc rfl)))
end
end FL
set_option maxRecDepth 100000
set_option maxHeartbeats 4000000
noncomputable section
namespace FL
open PySem PySem.Spec PyProof.Rows L2
/-! evaluation of mirrors -/
theorem isi_int_non : oIsi "int" .non = some (.bl false) := by simp only [oIsi, hasKind, if_true, dKind, kb_none_int, Option.map_some]
theorem isi_int_bl (b) : oIsi "int" (.bl b) = some (.bl true) := by simp only [oIsi, hasKind, if_true, dKind, kb_bool_int, Option.map_some]
theorem isi_int_int (b) : oIsi "int" (.int b) = some (.bl true) := by simp only [oIsi, hasKind, if_true, dKind, kb_int_int, Option.map_some]
theorem isi_int_str (b) : oIsi "int" (.str b) = some (.bl false) := by simp only [oIsi, hasKind, if_true, dKind, kb_str_int, Option.map_some]
theorem isi_int_tup (b) : oIsi "int" (.tup b) = some (.bl false) := by simp only [oIsi, hasKind, if_true, dKind, kb_tuple_int, Option.map_some]
theorem isi_int_lst (b) : oIsi "int" (.lst b) = some (.bl false) := by simp only [oIsi, hasKind, if_true, dKind, kb_list_int, Option.map_some]
theorem isi_bool_non : oIsi "bool" .non = some (.bl false) := by simp only [oIsi, hasKind, if_true, dKind, kb_none_bool, Option.map_some]
theorem isi_bool_bl (b) : oIsi "bool" (.bl b) = some (.bl true) := by simp only [oIsi, hasKind, if_true, dKind, kb_bool_bool, Option.map_some]
theorem isi_bool_int (b) : oIsi "bool" (.int b) = some (.bl false) := by simp only [oIsi, hasKind, if_true, dKind, kb_int_bool, Option.map_some]
theorem isi_bool_str (b) : oIsi "bool" (.str b) = some (.bl false) := by simp only [oIsi, hasKind, if_true, dKind, kb_str_bool, Option.map_some]
theorem isi_bool_tup (b) : oIsi "bool" (.tup b) = some (.bl false) := by simp only [oIsi, hasKind, if_true, dKind, kb_tuple_bool, Option.map_some]
theorem isi_bool_lst (b) : oIsi "bool" (.lst b) = some (.bl false) := by simp only [oIsi, hasKind, if_true, dKind, kb_list_bool, Option.map_some]
theorem isi_tuple_non : oIsi "tuple" .non = some (.bl false) := by simp only [oIsi, hasKind, if_true, dKind, kb_none_tuple, Option.map_some]
theorem isi_tuple_bl (b) : oIsi "tuple" (.bl b) = some (.bl false) := by simp only [oIsi, hasKind, if_true, dKind, kb_bool_tuple, Option.map_some]
theorem isi_tuple_int (b) : oIsi "tuple" (.int b) = some (.bl false) := by simp only [oIsi, hasKind, if_true, dKind, kb_int_tuple, Option.map_some]
theorem isi_tuple_str (b) : oIsi "tuple" (.str b) = some (.bl false) := by simp only [oIsi, hasKind, if_true, dKind, kb_str_tuple, Option.map_some]
theorem isi_tuple_tup (b) : oIsi "tuple" (.tup b) = some (.bl true) := by simp only [oIsi, hasKind, if_true, dKind, kb_tuple_tuple, Option.map_some]
theorem isi_tuple_lst (b) : oIsi "tuple" (.lst b) = some (.bl false) := by simp only [oIsi, hasKind, if_true, dKind, kb_list_tuple, Option.map_some]
theorem isi_str_non : oIsi "str" .non = some (.bl false) := by simp only [oIsi, hasKind, if_true, dKind, kb_none_str, Option.map_some]
theorem isi_str_bl (b) : oIsi "str" (.bl b) = some (.bl false) := by simp only [oIsi, hasKind, if_true, dKind, kb_bool_str, Option.map_some]
theorem isi_str_int (b) : oIsi "str" (.int b) = some (.bl false) := by simp only [oIsi, hasKind, if_true, dKind, kb_int_str, Option.map_some]
theorem isi_str_str (b) : oIsi "str" (.str b) = some (.bl true) := by simp only [oIsi, hasKind, if_true, dKind, kb_str_str, Option.map_some]
theorem isi_str_tup (b) : oIsi "str" (.tup b) = some (.bl false) := by simp only [oIsi, hasKind, if_true, dKind, kb_tuple_str, Option.map_some]
theorem isi_str_lst (b) : oIsi "str" (.lst b) = some (.bl false) := by simp only [oIsi, hasKind, if_true, dKind, kb_list_str, Option.map_some]
theorem oAdd_int (i j : Int) : oAdd (.int i) (.int j) = some (.int (i + j)) := rfl
theorem oSub_int (i j : Int) : oSub (.int i) (.int j) = some (.int (i - j)) := rfl
theorem oMul_int {i j : Int} (h : Sm i) (g : Sm j) : oMul (.int i) (.int j) = some (.int (i * j)) := by simp only [oMul, h, g, and_self, if_true]
theorem oDiv_int {i j : Int} (h : 0 < j) (g : Sm j) : oDiv (.int i) (.int j) = some (.int (i / j)) := by simp only [oDiv, h, g, and_self, if_true]
theorem oMod_int {i j : Int} (h : 0 < j) : oMod (.int i) (.int j) = some (.int (i % j)) := by simp only [oMod, oII, h, if_true]
theorem oLt_int (i j : Int) : oLt (.int i) (.int j) = some (.bl (decide (i < j))) := rfl
theorem oLe_int (i j : Int) : oLe (.int i) (.int j) = some (.bl (decide (i ≤ j))) := rfl
theorem oGt_int (i j : Int) : oGt (.int i) (.int j) = some (.bl (decide (j < i))) := rfl
theorem oGe_int (i j : Int) : oGe (.int i) (.int j) = some (.bl (decide (j ≤ i))) := rfl
theorem oNeg_int (i : Int) : oNeg (.int i) = some (.int (-i)) := rfl
theorem oEq_int (i j : Int) : oEq (.int i) (.int j) = some (.bl (decide (i = j))) := by
  show some (D.bl (i == j)) = _
  rw [Bool.beq_eq_decide_eq]
theorem oNe_int (i j : Int) : oNe (.int i) (.int j) = some (.bl (!decide (i = j))) := by
  show some (D.bl (!(i == j))) = _
  rw [Bool.beq_eq_decide_eq]
theorem oIs_non (x : D) : oIs x .non = some (.bl (isN x)) := by cases x <;> rfl
theorem oIsNot_non (x : D) : oIsNot x .non = some (.bl (!isN x)) := by cases x <;> rfl
theorem isN_non : isN .non = true := rfl
theorem isN_int (i) : isN (.int i) = false := rfl
theorem isN_bl (i) : isN (.bl i) = false := rfl
theorem isN_str (i) : isN (.str i) = false := rfl
theorem isN_tup (i) : isN (.tup i) = false := rfl
theorem isN_lst (i) : isN (.lst i) = false := rfl
theorem oIx_tup0 (a : D) (l : List D) : oIx (.tup (a :: l)) (.int 0) = some a := by
  show atI _ _ = _
  exact atI0
theorem oIx_tup1 (a b : D) (l : List D) : oIx (.tup (a :: b :: l)) (.int 1) = some b := by
  show atI _ _ = _
  unfold atI ixN
  rw [if_pos (by decide), if_pos (by simp only [List.length_cons]; omega)]; rfl
/-- the place i in bounds -/
theorem oIx_tup {l : List D} {i : Int} {d : D} (h0 : 0 ≤ i) (h : l[i.toNat]? = some d) : oIx (.tup l) (.int i) = some d := by
  show atI _ _ = _
  have hl := (List.getElem?_eq_some_iff.mp h).1
  unfold atI ixN
  rw [if_pos h0, if_pos (by omega)]
  exact h
theorem oIx_lst {l : List D} {i : Int} {d : D} (h0 : 0 ≤ i) (h : l[i.toNat]? = some d) : oIx (.lst l) (.int i) = some d := by
  show atI _ _ = _
  have hl := (List.getElem?_eq_some_iff.mp h).1
  unfold atI ixN
  rw [if_pos h0, if_pos (by omega)]
  exact h
theorem dItems_tup (l : List D) : dItems (.tup l) = some l := rfl
theorem dItems_lst (l : List D) : dItems (.lst l) = some l := rfl
theorem gLen_tup (l : List D) : gLen [.tup l] = some (.int l.length) := rfl
theorem gLen_lst (l : List D) : gLen [.lst l] = some (.int l.length) := rfl
theorem gTuple_tup (l : List D) : gTuple [.tup l] = some (.tup l) := rfl
theorem gTuple_lst (l : List D) : gTuple [.lst l] = some (.tup l) := rfl
theorem gList_tup (l : List D) : gList [.tup l] = some (.lst l) := rfl
theorem gList_lst (l : List D) : gList [.lst l] = some (.lst l) := rfl
theorem gAbs_int (i : Int) : gAbs [.int i] = some (.int (if i < 0 then -i else i)) := rfl
theorem gInt_int (i : Int) : gInt [.int i] = some (.int i) := rfl
theorem ixN_of {n : Nat} {i : Int} (h0 : 0 ≤ i) (h : i < n) : ixN n i = some i.toNat := by
  unfold ixN
  rw [if_pos h0, if_pos h]
theorem small_of {l : List D} (h : l.length ≤ 100000) : small l = true := sml_of h
theorem rep1_of {k : Int} {l : List D} (h1 : -1000 ≤ k) (h2 : k ≤ 1000) (h3 : l.length ≤ 1000) : rep1 k l = true := @decide_eq_true _ (Classical.propDecidable _) ⟨h1, h2, h3⟩
theorem divN_of {j : Int} (h1 : j ≠ 0) (h2 : j.natAbs < 1073741824) : divN j = true := @decide_eq_true _ (Classical.propDecidable _) ⟨h1, h2⟩
theorem big_of {i : Int} (h : -(2 ^ 62) ≤ i) (g : i < 2 ^ 62) : big i = true := @decide_eq_true _ (Classical.propDecidable _) ⟨h, g⟩
/-- the tape in its order -/
def TOk (t : Tape) : Prop := 0 ≤ t.seed ∧ t.seed ≤ 2147483647
theorem seedOf_lt : ∀ (l : List Int) (s : Int), 0 ≤ s → s < 1000003 → 0 ≤ seedOf s l ∧ seedOf s l < 1000003
  | [], s, h, g => ⟨h, g⟩
  | x :: r, s, h, g => seedOf_lt r _ (Int.emod_nonneg _ (by decide)) (Int.emod_lt_of_pos _ (by decide))
theorem tapeOf_ok (ns : List Int) : TOk (tapeOf ns) := by
  have := seedOf_lt ns 7 (by decide) (by decide)
  constructor <;> simp only [tapeOf] <;> omega
theorem draw_ev {t : Tape} {m : Int} (ht : TOk t) (hm : 0 < m) (hs : m < 2 ^ 200) : ∃ i t', F_draw [.tape, .int m] t = some (.int i, t') ∧ 0 ≤ i ∧ i < m ∧ TOk t' := by
  have h1 : Sm m := Sm.of (by omega)
  have h2 : Sm t.seed := Sm.of (by have := ht.1; have := ht.2; omega)
  refine ⟨(draw t m).1, (draw t m).2, by simp only [F_draw, hm, h1, h2, and_self, if_true], ?_⟩
  unfold draw
  split
  · exact ⟨Int.emod_nonneg _ (by omega), Int.emod_lt_of_pos _ hm, ht⟩
  · refine ⟨Int.emod_nonneg _ (by omega), Int.emod_lt_of_pos _ hm, ?_⟩
    have a := Int.emod_nonneg (t.seed * 48271 + 12345) (b := 2147483647) (by decide)
    have b := Int.emod_lt_of_pos (t.seed * 48271 + 12345) (b := 2147483647) (by decide)
    exact ⟨a, Int.le_of_lt (Int.lt_of_lt_of_le b (by decide))⟩
end FL
local macro_rules
  | `(tactic| simp! [$ls,*]) => `(tactic| simp only [FL.fnM, FL.mSeq, FL.mIf, FL.mRet, FL.mSet, FL.mPar2, FL.mPar3, FL.mDrop, FL.mSkip, FL.mAsg, FL.mAug, FL.mVar, FL.mC, FL.mOp, FL.mUn, FL.mTup, FL.mLst, FL.mCons, FL.mNil, FL.mCall, FL.mCallB, FL.mIfE, FL.mAndV, FL.mOrV, FL.mNotV, FL.mTst, FL.mAnd, FL.mOr, FL.mNot, FL.mRetN, FL.mBreak, FL.mCont,
  FL.mIt, FL.mIter, FL.dItems_tup, FL.dItems_lst, FL.gmName, FL.gmTup, FL.gmNil, FL.gmCons, FL.mYes, FL.wipeE, FL.gAbs_int, FL.gInt_int, FL.gLen_tup, FL.gLen_lst, FL.gTuple_tup, FL.gTuple_lst, FL.gList_tup, FL.gList_lst, FL.mNoO, FL.mO, FL.mSl,
  FL.isi_int_non, FL.isi_int_bl, FL.isi_int_int, FL.isi_int_str, FL.isi_int_tup, FL.isi_int_lst, FL.isi_bool_non, FL.isi_bool_bl, FL.isi_bool_int, FL.isi_bool_str, FL.isi_bool_tup, FL.isi_bool_lst,
  FL.isi_tuple_non, FL.isi_tuple_bl, FL.isi_tuple_int, FL.isi_tuple_str, FL.isi_tuple_tup, FL.isi_tuple_lst, FL.isi_str_non, FL.isi_str_bl, FL.isi_str_int, FL.isi_str_str, FL.isi_str_tup, FL.isi_str_lst,
  FL.oAdd_int, FL.oSub_int, FL.oLt_int, FL.oLe_int, FL.oGt_int, FL.oGe_int, FL.oNeg_int, FL.oEq_int, FL.oNe_int, FL.oIs_non, FL.oIsNot_non, FL.isN_non, FL.isN_int, FL.isN_bl, FL.isN_str, FL.isN_tup, FL.isN_lst, FL.oIx_tup0, FL.oIx_tup1, FL.plnL, FL.pln, FL.dep,
  List.map_cons, List.map_nil, List.length_cons, List.length_nil, List.cons_append, List.nil_append, List.replicate, List.getElem?_cons_zero, List.getElem?_cons_succ, List.set_cons_zero, List.set_cons_succ, Nat.reduceAdd, Nat.reduceSub, Nat.zero_add, Nat.sub_self, Nat.add_sub_cancel, Nat.succ_sub_succ, Nat.sub_zero,
  Option.bind_some, Option.map_some, Option.bind_none, Option.map_none, if_true, if_false, Bool.not_true, Bool.not_false, Bool.false_eq_true, Bool.true_and, Bool.and_true, reduceIte, decide_true, decide_false, List.all_cons, List.all_nil, Bool.and_self, Nat.reduceLeDiff, Nat.reduceEqDiff, Nat.reduceLT, Int.reduceLT, Int.reduceLE, Int.reduceEq, Int.reduceAdd, Int.reduceSub, Int.reduceMul, Int.reduceNeg, Int.cast_ofNat_Int, Int.natCast_zero, Int.natCast_one, id_eq, reduceCtorEq, Bool.not_eq_true', FL.bls, FL.small, FL.sml_of, List.length_map, List.length_range, $ls,*])
namespace FL.L
open PySem PySem.Spec PyProof.Rows L2 FL
noncomputable def m_ratios_is_integer : SM :=
  (mRet (mAndV (mUn (oIsi "int") (mVar 0)) (mNotV (mUn (oIsi "bool") (mVar 0)))))
noncomputable def F_ratios_is_integer : FM := fnM 1 0 m_ratios_is_integer
noncomputable def m_ratios_divisor : SM :=
  (mSeq (mPar2 0 1 (mCallB gAbs (mCons (mVar 0) mNil)) (mCallB gAbs (mCons (mVar 1) mNil))) (mSeq (mWhile (fun ρ _ => match ρ[1]? with | some (some (D.int o)) => o.toNat + 1 | _ => 0) (mTst (mOp oGt (mVar 1) (mC (.int 0)))) (mPar2 0 1 (mVar 1) (mOp oMod (mVar 0) (mVar 1)))) (mRet (mVar 0))))
noncomputable def F_ratios_divisor : FM := fnM 2 0 m_ratios_divisor
noncomputable def m_ratios_is_ratio : SM :=
  (mSeq (mIf (mOr (mNot (mTst (mUn (oIsi "tuple") (mVar 0)))) (mOr (mTst (mOp oNe (mCallB gLen (mCons (mVar 0) mNil)) (mC (.int 2)))) (mNot (mTst (mCallB gAll (mCons (mLc (mIt (mVar 0)) (gmName 1) mYes (mCall 1 0 F_ratios_is_integer (mCons (mVar 1) mNil)) [1]) mNil)))))) (mRet (mC (.bl false))) mSkip) (mRet (mAndV (mOp oGt (mOp oIx (mVar 0) (mC (.int 1))) (mC (.int 0))) (mOp oEq (mCall 2 0 F_ratios_divisor (mCons (mOp oIx (mVar 0) (mC (.int 0))) (mCons (mOp oIx (mVar 0) (mC (.int 1))) mNil))) (mC (.int 1))))))
noncomputable def F_ratios_is_ratio : FM := fnM 2 0 m_ratios_is_ratio
noncomputable def m_ratios_make : SM :=
  (mSeq (mIf (mTst (mOp oEq (mVar 1) (mC (.int 0)))) mNever mSkip) (mSeq (mSet 2 (mCall 2 0 F_ratios_divisor (mCons (mVar 0) (mCons (mVar 1) mNil)))) (mSeq (mIf (mTst (mOp oLt (mVar 1) (mC (.int 0)))) (mSet 2 (mUn oNeg (mVar 2))) mSkip) (mRet (mTup (mCons (mOp oDiv (mVar 0) (mVar 2)) (mCons (mOp oDiv (mVar 1) (mVar 2)) mNil)))))))
noncomputable def F_ratios_make : FM := fnM 3 0 m_ratios_make
noncomputable def m_ratios_add : SM :=
  (mRet (mCall 2 0 F_ratios_make (mCons (mOp oAdd (mOp oMul (mOp oIx (mVar 0) (mC (.int 0))) (mOp oIx (mVar 1) (mC (.int 1)))) (mOp oMul (mOp oIx (mVar 1) (mC (.int 0))) (mOp oIx (mVar 0) (mC (.int 1))))) (mCons (mOp oMul (mOp oIx (mVar 0) (mC (.int 1))) (mOp oIx (mVar 1) (mC (.int 1)))) mNil))))
noncomputable def F_ratios_add : FM := fnM 2 0 m_ratios_add
noncomputable def m_ratios_multiply : SM :=
  (mRet (mCall 2 0 F_ratios_make (mCons (mOp oMul (mOp oIx (mVar 0) (mC (.int 0))) (mOp oIx (mVar 1) (mC (.int 0)))) (mCons (mOp oMul (mOp oIx (mVar 0) (mC (.int 1))) (mOp oIx (mVar 1) (mC (.int 1)))) mNil))))
noncomputable def F_ratios_multiply : FM := fnM 2 0 m_ratios_multiply
noncomputable def m_ratios_less : SM :=
  (mRet (mOp oLt (mOp oMul (mOp oIx (mVar 0) (mC (.int 0))) (mOp oIx (mVar 1) (mC (.int 1)))) (mOp oMul (mOp oIx (mVar 1) (mC (.int 0))) (mOp oIx (mVar 0) (mC (.int 1))))))
noncomputable def F_ratios_less : FM := fnM 2 0 m_ratios_less
noncomputable def m_values_is_value : SM :=
  (mRet (mOrV (mOp oIs (mVar 0) (mC .non)) (mCall 1 0 F_ratios_is_ratio (mCons (mVar 0) mNil))))
noncomputable def F_values_is_value : FM := fnM 1 0 m_values_is_value
noncomputable def m_values_is_less : SM :=
  (mSeq (mIf (mOr (mTst (mOp oIs (mVar 0) (mC .non))) (mTst (mOp oIs (mVar 1) (mC .non)))) (mRet (mAndV (mOp oIs (mVar 0) (mC .non)) (mOp oIsNot (mVar 1) (mC .non)))) mSkip) (mRet (mCall 2 0 F_ratios_less (mCons (mVar 0) (mCons (mVar 1) mNil)))))
noncomputable def F_values_is_less : FM := fnM 2 0 m_values_is_less
noncomputable def m_values_greater : SM :=
  (mRet (mIfE (mTst (mCall 2 0 F_values_is_less (mCons (mVar 0) (mCons (mVar 1) mNil)))) (mVar 1) (mVar 0)))
noncomputable def F_values_greater : FM := fnM 2 0 m_values_greater
noncomputable def m_values_greatest : SM :=
  (mSeq (mSet 1 (mC .non)) (mSeq (mFor (mIt (mVar 0)) (gmName 2) (mSet 1 (mCall 2 0 F_values_greater (mCons (mVar 1) (mCons (mVar 2) mNil))))) (mRet (mVar 1))))
noncomputable def F_values_greatest : FM := fnM 3 0 m_values_greatest
noncomputable def m_values_plus : SM :=
  (mRet (mIfE (mOr (mTst (mOp oIs (mVar 0) (mC .non))) (mTst (mOp oIs (mVar 1) (mC .non)))) (mC .non) (mCall 2 0 F_ratios_add (mCons (mVar 0) (mCons (mVar 1) mNil)))))
noncomputable def F_values_plus : FM := fnM 2 0 m_values_plus
def d_ratios_ZERO : D := .tup [.int 0, .int 1]
noncomputable def m_values_times : SM :=
  (mSeq (mIf (mTst (mOp oEq (mVar 1) (mC (.int 0)))) (mRet (mC d_ratios_ZERO)) mSkip) (mRet (mIfE (mTst (mOp oIs (mVar 0) (mC .non))) (mC .non) (mCall 2 0 F_ratios_multiply (mCons (mVar 0) (mCons (mTup (mCons (mVar 1) (mCons (mC (.int 1)) mNil))) mNil))))))
noncomputable def F_values_times : FM := fnM 2 0 m_values_times
def d_rules_MOST_RULES : D := .int 24
noncomputable def m_rules_check_things : SM :=
  (mSeq (mIf (mOr (mNot (mTst (mCall 1 0 F_ratios_is_integer (mCons (mVar 2) mNil)))) (mOr (mTst (mOp oLt (mVar 2) (mC (.int 0)))) (mTst (mOp oGt (mVar 2) (mC (.int 200)))))) mNever mSkip) (mSeq (mIf (mOr (mNot (mTst (mUn (oIsi "tuple") (mVar 0)))) (mNot (mTst (mUn (oIsi "tuple") (mVar 1))))) mNever mSkip) (mSeq (mIf (mOr (mTst (mOp oNe (mCallB gLen (mCons (mVar 0) mNil)) (mCallB gLen (mCons (mVar 1) mNil)))) (mOr (mTst (mOp oGt (mCallB gLen (mCons (mVar 0) mNil)) (mC d_rules_MOST_RULES))) (mNot (mTst (mCallB gAll (mCons (mLc (mIt (mVar 1)) (gmName 3) mYes (mCall 1 0 F_ratios_is_ratio (mCons (mVar 3) mNil)) [3]) mNil)))))) mNever mSkip) (mIf (mNot (mTst (mCallB gAll (mCons (mLc (mIt (mVar 0)) (gmName 3) mYes (mAndV (mCall 1 0 F_ratios_is_integer (mCons (mVar 3) mNil)) (mOp oGt (mVar 3) (mC (.int 0)))) [3]) mNil)))) mNever mSkip))))
noncomputable def F_rules_check_things : FM := fnM 4 0 m_rules_check_things
noncomputable def m_rules_lots_of : SM :=
  (mSeq (mDrop (mCall 3 0 F_rules_check_things (mCons (mVar 0) (mCons (mVar 1) (mCons (mVar 2) mNil))))) (mSeq (mSet 3 (mOp oRep (mLst (mCons (mC d_ratios_ZERO) mNil)) (mOp oAdd (mVar 2) (mC (.int 1))))) (mSeq (mFor (mIter dZipA (mCons (mVar 0) (mCons (mVar 1) mNil))) (gmTup 2 (gmCons (gmName 4) (gmCons (gmName 5) gmNil))) (mFor (mIter dRangeD (mCons (mVar 2) (mCons (mOp oSub (mVar 4) (mC (.int 1))) (mCons (mUn oNeg (mC (.int 1))) mNil)))) (gmName 6) (mSeq (mSet 7 (mCall 2 0 F_values_plus (mCons (mOp oIx (mVar 3) (mOp oSub (mVar 6) (mVar 4))) (mCons (mVar 5) mNil)))) (mSetI 3 (mVar 6) (mIfE (mTst (mCall 2 0 F_values_is_less (mCons (mOp oIx (mVar 3) (mVar 6)) (mCons (mVar 7) mNil)))) (mVar 7) (mOp oIx (mVar 3) (mVar 6))))))) (mRet (mCallB gTuple (mCons (mVar 3) mNil))))))
noncomputable def F_rules_lots_of : FM := fnM 8 0 m_rules_lots_of
noncomputable def m_rules_chosen : SM :=
  (mSeq (mDrop (mCall 3 0 F_rules_check_things (mCons (mVar 0) (mCons (mVar 1) (mCons (mVar 2) mNil))))) (mSeq (mPar2 3 4 (mLst mNil) (mVar 2)) (mSeq (mFor (mIter dRangeD (mCons (mOp oSub (mCallB gLen (mCons (mVar 0) mNil)) (mC (.int 1))) (mCons (mUn oNeg (mC (.int 1))) (mCons (mUn oNeg (mC (.int 1))) mNil)))) (gmName 5) (mSeq (mSet 6 (mCall 3 0 F_rules_lots_of (mCons (mSl oSlT (mVar 0) mNoO (mO (mVar 5))) (mCons (mSl oSlT (mVar 1) mNoO (mO (mVar 5))) (mCons (mVar 4) mNil))))) (mSeq (mSet 7 (mCall 3 0 F_rules_lots_of (mCons (mSl oSlT (mVar 0) mNoO (mO (mOp oAdd (mVar 5) (mC (.int 1))))) (mCons (mSl oSlT (mVar 1) mNoO (mO (mOp oAdd (mVar 5) (mC (.int 1))))) (mCons (mVar 4) mNil))))) (mIf (mTst (mOp oNe (mOp oIx (mVar 7) (mVar 4)) (mOp oIx (mVar 6) (mVar 4)))) (mSeq (mApp 3 (mVar 5)) (mAug 4 (fun i j => i - j) (mOp oIx (mVar 0) (mVar 5)))) mSkip)))) (mRet (mCallB gTuple (mCons (mUn oRev (mVar 3)) mNil))))))
noncomputable def F_rules_chosen : FM := fnM 8 0 m_rules_chosen
def d_polys_MOST_DEGREE : D := .int 30
noncomputable def m_polys_is_poly : SM :=
  (mSeq (mIf (mOr (mNot (mTst (mUn (oIsi "tuple") (mVar 0)))) (mOr (mTst (mOp oGt (mCallB gLen (mCons (mVar 0) mNil)) (mOp oAdd (mC d_polys_MOST_DEGREE) (mC (.int 1))))) (mNot (mTst (mCallB gAll (mCons (mLc (mIt (mVar 0)) (gmName 1) mYes (mCall 1 0 F_values_is_value (mCons (mVar 1) mNil)) [1]) mNil)))))) (mRet (mC (.bl false))) mSkip) (mRet (mOrV (mOp oEq (mVar 0) (mTup mNil)) (mOp oIsNot (mOp oIx (mVar 0) (mUn oNeg (mC (.int 1)))) (mC .non)))))
noncomputable def F_polys_is_poly : FM := fnM 2 0 m_polys_is_poly
noncomputable def m_polys_check_poly : SM :=
  (mIf (mNot (mTst (mCall 1 0 F_polys_is_poly (mCons (mVar 0) mNil)))) mNever mSkip)
noncomputable def F_polys_check_poly : FM := fnM 1 0 m_polys_check_poly
noncomputable def m_polys_product : SM :=
  (mSeq (mDrop (mCall 1 0 F_polys_check_poly (mCons (mVar 0) mNil))) (mSeq (mDrop (mCall 1 0 F_polys_check_poly (mCons (mVar 1) mNil))) (mSeq (mIf (mOr (mTst (mOp oEq (mVar 0) (mTup mNil))) (mTst (mOp oEq (mVar 1) (mTup mNil)))) (mRet (mTup mNil)) mSkip) (mSeq (mIf (mTst (mOp oGt (mOp oSub (mOp oAdd (mCallB gLen (mCons (mVar 0) mNil)) (mCallB gLen (mCons (mVar 1) mNil))) (mC (.int 2))) (mC d_polys_MOST_DEGREE))) mNever mSkip) (mSeq (mSet 2 (mOp oRep (mLst (mCons (mC .non) mNil)) (mOp oSub (mOp oAdd (mCallB gLen (mCons (mVar 0) mNil)) (mCallB gLen (mCons (mVar 1) mNil))) (mC (.int 1))))) (mSeq (mFor (mIter dEnumA (mCons (mVar 0) mNil)) (gmTup 2 (gmCons (gmName 3) (gmCons (gmName 4) gmNil))) (mFor (mIter dEnumA (mCons (mVar 1) mNil)) (gmTup 2 (gmCons (gmName 5) (gmCons (gmName 6) gmNil))) (mSetI 2 (mOp oAdd (mVar 3) (mVar 5)) (mCall 2 0 F_values_greater (mCons (mOp oIx (mVar 2) (mOp oAdd (mVar 3) (mVar 5))) (mCons (mCall 2 0 F_values_plus (mCons (mVar 4) (mCons (mVar 6) mNil))) mNil)))))) (mRet (mCallB gTuple (mCons (mVar 2) mNil)))))))))
noncomputable def F_polys_product : FM := fnM 7 0 m_polys_product
noncomputable def m_polys_value : SM :=
  (mSeq (mDrop (mCall 1 0 F_polys_check_poly (mCons (mVar 0) mNil))) (mRet (mCall 1 0 F_values_greatest (mCons (mLc (mIter dEnumA (mCons (mVar 0) mNil)) (gmTup 2 (gmCons (gmName 2) (gmCons (gmName 3) gmNil))) mYes (mCall 2 0 F_values_plus (mCons (mVar 3) (mCons (mCall 2 0 F_values_times (mCons (mVar 1) (mCons (mVar 2) mNil))) mNil))) [2, 3]) mNil))))
noncomputable def F_polys_value : FM := fnM 4 0 m_polys_value
noncomputable def m_law_pick : SM :=
  (mRet (mOp oIx (mVar 1) (mCall 2 0 F_draw (mCons (mVar 0) (mCons (mCallB gLen (mCons (mVar 1) mNil)) mNil)))))
noncomputable def F_law_pick : FM := fnM 2 0 m_law_pick
noncomputable def m_law_same (R : FM) : SM :=
  (mSeq (mIf (mTst (mOp oIs (mVar 1) (mC .non))) (mRet (mOp oIs (mVar 0) (mC .non))) mSkip) (mSeq (mIf (mTst (mUn (oIsi "bool") (mVar 1))) (mRet (mAndV (mUn (oIsi "bool") (mVar 0)) (mOp oEq (mVar 0) (mVar 1)))) mSkip) (mSeq (mIf (mTst (mUn (oIsi "tuple") (mVar 1))) (mSeq (mIf (mOr (mNot (mTst (mUn (oIsi "tuple") (mVar 0)))) (mTst (mOp oNe (mCallB gLen (mCons (mVar 0) mNil)) (mCallB gLen (mCons (mVar 1) mNil))))) (mRet (mC (.bl false))) mSkip) (mRet (mCallB gAll (mCons (mLc (mIter dRange1 (mCons (mCallB gLen (mCons (mVar 1) mNil)) mNil)) (gmName 2) mYes (mCall 2 0 R (mCons (mOp oIx (mVar 0) (mVar 2)) (mCons (mOp oIx (mVar 1) (mVar 2)) mNil))) [2]) mNil)))) mSkip) (mSeq (mIf (mTst (mUn (oIsi "str") (mVar 1))) (mRet (mAndV (mUn (oIsi "str") (mVar 0)) (mOp oEq (mVar 0) (mVar 1)))) mSkip) (mRet (mAndV (mUn (oIsi "int") (mVar 0)) (mAndV (mNotV (mUn (oIsi "bool") (mVar 0))) (mOp oEq (mVar 0) (mVar 1)))))))))
noncomputable def F_law_same_n : Nat → FM
  | 0 => fun _ _ => none
  | n + 1 => fnM 3 0 (m_law_same (F_law_same_n n))
noncomputable def F_law_same : FM := F_law_same_n 7
noncomputable def m_law_frac : SM :=
  (mSeq (mPar2 2 3 (mCallB gAbs (mCons (mVar 0) mNil)) (mCallB gAbs (mCons (mVar 1) mNil))) (mSeq (mWhile (fun ρ _ => match ρ[3]? with | some (some (D.int o)) => o.toNat + 1 | _ => 0) (mTst (mOp oGt (mVar 3) (mC (.int 0)))) (mPar2 2 3 (mVar 3) (mOp oMod (mVar 2) (mVar 3)))) (mRet (mIfE (mTst (mOp oGt (mVar 1) (mC (.int 0)))) (mTup (mCons (mOp oDiv (mVar 0) (mVar 2)) (mCons (mOp oDiv (mVar 1) (mVar 2)) mNil))) (mTup (mCons (mOp oDiv (mUn oNeg (mVar 0)) (mVar 2)) (mCons (mOp oDiv (mUn oNeg (mVar 1)) (mVar 2)) mNil)))))))
noncomputable def F_law_frac : FM := fnM 4 0 m_law_frac
noncomputable def m_law_plus : SM :=
  (mSeq (mIf (mOr (mTst (mOp oIs (mVar 0) (mC .non))) (mTst (mOp oIs (mVar 1) (mC .non)))) (mRet (mC .non)) mSkip) (mRet (mCall 2 0 F_law_frac (mCons (mOp oAdd (mOp oMul (mOp oIx (mVar 0) (mC (.int 0))) (mOp oIx (mVar 1) (mC (.int 1)))) (mOp oMul (mOp oIx (mVar 1) (mC (.int 0))) (mOp oIx (mVar 0) (mC (.int 1))))) (mCons (mOp oMul (mOp oIx (mVar 0) (mC (.int 1))) (mOp oIx (mVar 1) (mC (.int 1)))) mNil)))))
noncomputable def F_law_plus : FM := fnM 2 0 m_law_plus
noncomputable def m_law_below : SM :=
  (mSeq (mIf (mOr (mTst (mOp oIs (mVar 0) (mC .non))) (mTst (mOp oIs (mVar 1) (mC .non)))) (mRet (mAndV (mOp oIs (mVar 0) (mC .non)) (mOp oIsNot (mVar 1) (mC .non)))) mSkip) (mRet (mOp oLt (mOp oMul (mOp oIx (mVar 0) (mC (.int 0))) (mOp oIx (mVar 1) (mC (.int 1)))) (mOp oMul (mOp oIx (mVar 1) (mC (.int 0))) (mOp oIx (mVar 0) (mC (.int 1)))))))
noncomputable def F_law_below : FM := fnM 2 0 m_law_below
noncomputable def m_law_top : SM :=
  (mSeq (mSet 1 (mC .non)) (mSeq (mFor (mIt (mVar 0)) (gmName 2) (mSet 1 (mIfE (mTst (mCall 2 0 F_law_below (mCons (mVar 1) (mCons (mVar 2) mNil)))) (mVar 2) (mVar 1)))) (mRet (mVar 1))))
noncomputable def F_law_top : FM := fnM 3 0 m_law_top
noncomputable def m_law_sum : SM :=
  (mSeq (mSet 1 (mTup (mCons (mC (.int 0)) (mCons (mC (.int 1)) mNil)))) (mSeq (mFor (mIt (mVar 0)) (gmName 2) (mSet 1 (mCall 2 0 F_law_plus (mCons (mVar 1) (mCons (mVar 2) mNil))))) (mRet (mVar 1))))
noncomputable def F_law_sum : FM := fnM 3 0 m_law_sum
noncomputable def m_law_number : SM :=
  (mRet (mCall 2 0 F_law_frac (mCons (mOp oSub (mCall 2 0 F_draw (mCons (mVar 0) (mCons (mC (.int 13)) mNil))) (mC (.int 6))) (mCons (mCall 2 0 F_law_pick (mCons (mVar 0) (mCons (mLst (mCons (mC (.int 1)) (mCons (mC (.int 1)) (mCons (mC (.int 2)) (mCons (mC (.int 3)) mNil))))) mNil))) mNil))))
noncomputable def F_law_number : FM := fnM 1 0 m_law_number
noncomputable def m_ratios_subtract : SM :=
  (mRet (mCall 2 0 F_ratios_make (mCons (mOp oSub (mOp oMul (mOp oIx (mVar 0) (mC (.int 0))) (mOp oIx (mVar 1) (mC (.int 1)))) (mOp oMul (mOp oIx (mVar 1) (mC (.int 0))) (mOp oIx (mVar 0) (mC (.int 1))))) (mCons (mOp oMul (mOp oIx (mVar 0) (mC (.int 1))) (mOp oIx (mVar 1) (mC (.int 1)))) mNil))))
noncomputable def F_ratios_subtract : FM := fnM 2 0 m_ratios_subtract
noncomputable def m_values_lesser : SM :=
  (mRet (mIfE (mTst (mCall 2 0 F_values_is_less (mCons (mVar 0) (mCons (mVar 1) mNil)))) (mVar 0) (mVar 1)))
noncomputable def F_values_lesser : FM := fnM 2 0 m_values_lesser
noncomputable def m_values_minus : SM :=
  (mRet (mIfE (mTst (mOp oIs (mVar 0) (mC .non))) (mC .non) (mCall 2 0 F_ratios_subtract (mCons (mVar 0) (mCons (mVar 1) mNil)))))
noncomputable def F_values_minus : FM := fnM 2 0 m_values_minus
def d_tables_MOST_SIZE : D := .int 30
noncomputable def m_tables_is_table : SM :=
  (mSeq (mIf (mOr (mNot (mTst (mUn (oIsi "tuple") (mVar 0)))) (mOr (mTst (mOp oEq (mVar 0) (mTup mNil))) (mTst (mOp oGt (mCallB gLen (mCons (mVar 0) mNil)) (mC d_tables_MOST_SIZE))))) (mRet (mC (.bl false))) mSkip) (mSeq (mFor (mIt (mVar 0)) (gmName 1) (mIf (mOr (mNot (mTst (mUn (oIsi "tuple") (mVar 1)))) (mOr (mTst (mOp oEq (mVar 1) (mTup mNil))) (mOr (mTst (mOp oNe (mCallB gLen (mCons (mVar 1) mNil)) (mCallB gLen (mCons (mOp oIx (mVar 0) (mC (.int 0))) mNil)))) (mTst (mOp oGt (mCallB gLen (mCons (mVar 1) mNil)) (mC d_tables_MOST_SIZE)))))) (mRet (mC (.bl false))) mSkip)) (mRet (mCallB gAll (mCons (mLc (mIt (mVar 0)) (gmName 1) mYes (mCallB gAll (mCons (mLc (mIt (mVar 1)) (gmName 2) mYes (mCall 1 0 F_values_is_value (mCons (mVar 2) mNil)) [2]) mNil)) [1]) mNil)))))
noncomputable def F_tables_is_table : FM := fnM 3 0 m_tables_is_table
noncomputable def m_tables_check_table : SM :=
  (mIf (mNot (mTst (mCall 1 0 F_tables_is_table (mCons (mVar 0) mNil)))) mNever mSkip)
noncomputable def F_tables_check_table : FM := fnM 1 0 m_tables_check_table
noncomputable def m_tables_check_square : SM :=
  (mSeq (mDrop (mCall 1 0 F_tables_check_table (mCons (mVar 0) mNil))) (mIf (mTst (mOp oNe (mCallB gLen (mCons (mVar 0) mNil)) (mCallB gLen (mCons (mOp oIx (mVar 0) (mC (.int 0))) mNil)))) mNever mSkip))
noncomputable def F_tables_check_square : FM := fnM 1 0 m_tables_check_square
noncomputable def m_tables_check_row : SM :=
  (mIf (mOr (mNot (mTst (mUn (oIsi "tuple") (mVar 0)))) (mOr (mTst (mOp oNe (mCallB gLen (mCons (mVar 0) mNil)) (mVar 1))) (mNot (mTst (mCallB gAll (mCons (mLc (mIt (mVar 0)) (gmName 2) mYes (mCall 1 0 F_values_is_value (mCons (mVar 2) mNil)) [2]) mNil)))))) mNever mSkip)
noncomputable def F_tables_check_row : FM := fnM 3 0 m_tables_check_row
noncomputable def m_tables_unit : SM :=
  (mRet (mCallB gTuple (mCons (mLc (mIter dRange1 (mCons (mVar 0) mNil)) (gmName 1) mYes (mCallB gTuple (mCons (mLc (mIter dRange1 (mCons (mVar 0) mNil)) (gmName 2) mYes (mIfE (mTst (mOp oEq (mVar 1) (mVar 2))) (mC d_ratios_ZERO) (mC .non)) [2]) mNil)) [1]) mNil)))
noncomputable def F_tables_unit : FM := fnM 3 0 m_tables_unit
noncomputable def m_tables_add : SM :=
  (mSeq (mDrop (mCall 1 0 F_tables_check_table (mCons (mVar 0) mNil))) (mSeq (mDrop (mCall 1 0 F_tables_check_table (mCons (mVar 1) mNil))) (mSeq (mIf (mOr (mTst (mOp oNe (mCallB gLen (mCons (mVar 0) mNil)) (mCallB gLen (mCons (mVar 1) mNil)))) (mTst (mOp oNe (mCallB gLen (mCons (mOp oIx (mVar 0) (mC (.int 0))) mNil)) (mCallB gLen (mCons (mOp oIx (mVar 1) (mC (.int 0))) mNil))))) mNever mSkip) (mRet (mCallB gTuple (mCons (mLc (mIter dZipA (mCons (mVar 0) (mCons (mVar 1) mNil))) (gmTup 2 (gmCons (gmName 2) (gmCons (gmName 3) gmNil))) mYes (mCallB gTuple (mCons (mLc (mIter dZipA (mCons (mVar 2) (mCons (mVar 3) mNil))) (gmTup 2 (gmCons (gmName 4) (gmCons (gmName 5) gmNil))) mYes (mCall 2 0 F_values_greater (mCons (mVar 4) (mCons (mVar 5) mNil))) [4, 5]) mNil)) [2, 3]) mNil))))))
noncomputable def F_tables_add : FM := fnM 6 0 m_tables_add
noncomputable def m_tables_dot : SM :=
  (mRet (mCall 1 0 F_values_greatest (mCons (mLc (mIter dZipA (mCons (mVar 0) (mCons (mVar 1) mNil))) (gmTup 2 (gmCons (gmName 2) (gmCons (gmName 3) gmNil))) mYes (mCall 2 0 F_values_plus (mCons (mVar 2) (mCons (mVar 3) mNil))) [2, 3]) mNil)))
noncomputable def F_tables_dot : FM := fnM 4 0 m_tables_dot
noncomputable def m_tables_on_row : SM :=
  (mSeq (mDrop (mCall 1 0 F_tables_check_table (mCons (mVar 0) mNil))) (mSeq (mDrop (mCall 2 0 F_tables_check_row (mCons (mVar 1) (mCons (mCallB gLen (mCons (mOp oIx (mVar 0) (mC (.int 0))) mNil)) mNil)))) (mRet (mCallB gTuple (mCons (mLc (mIt (mVar 0)) (gmName 2) mYes (mCall 2 0 F_tables_dot (mCons (mVar 2) (mCons (mVar 1) mNil))) [2]) mNil)))))
noncomputable def F_tables_on_row : FM := fnM 3 0 m_tables_on_row
noncomputable def m_tables_turned : SM :=
  (mRet (mCallB gTuple (mCons (mLc (mIter dRange1 (mCons (mCallB gLen (mCons (mOp oIx (mVar 0) (mC (.int 0))) mNil)) mNil)) (gmName 1) mYes (mCallB gTuple (mCons (mLc (mIt (mVar 0)) (gmName 2) mYes (mOp oIx (mVar 2) (mVar 1)) [2]) mNil)) [1]) mNil)))
noncomputable def F_tables_turned : FM := fnM 3 0 m_tables_turned
noncomputable def m_tables_ways : SM :=
  (mSeq (mDrop (mCall 1 0 F_tables_check_square (mCons (mVar 0) mNil))) (mSeq (mSet 1 (mCallB gLen (mCons (mVar 0) mNil))) (mSeq (mSet 2 (mLc (mIt (mVar 0)) (gmName 6) mYes (mCallB gList (mCons (mVar 6) mNil)) [6])) (mSeq (mFor (mIter dRange1 (mCons (mVar 1) mNil)) (gmName 3) (mSeq (mIf (mTst (mCall 2 0 F_values_is_less (mCons (mC d_ratios_ZERO) (mCons (mOp oIx (mOp oIx (mVar 2) (mVar 3)) (mVar 3)) mNil)))) mNever mSkip) (mFor (mIter dRange1 (mCons (mVar 1) mNil)) (gmName 4) (mFor (mIter dRange1 (mCons (mVar 1) mNil)) (gmName 5) (mSetI2 2 (mVar 4) (mVar 5) (mCall 2 0 F_values_greater (mCons (mOp oIx (mOp oIx (mVar 2) (mVar 4)) (mVar 5)) (mCons (mCall 2 0 F_values_plus (mCons (mOp oIx (mOp oIx (mVar 2) (mVar 4)) (mVar 3)) (mCons (mOp oIx (mOp oIx (mVar 2) (mVar 3)) (mVar 5)) mNil))) mNil)))))))) (mSeq (mIf (mTst (mCallB gAny (mCons (mLc (mIter dRange1 (mCons (mVar 1) mNil)) (gmName 7) mYes (mCall 2 0 F_values_is_less (mCons (mC d_ratios_ZERO) (mCons (mOp oIx (mOp oIx (mVar 2) (mVar 7)) (mVar 7)) mNil))) [7]) mNil))) mNever mSkip) (mRet (mCallB gTuple (mCons (mLc (mIt (mVar 2)) (gmName 6) mYes (mCallB gTuple (mCons (mVar 6) mNil)) [6]) mNil))))))))
noncomputable def F_tables_ways : FM := fnM 8 0 m_tables_ways
noncomputable def m_tables_star : SM :=
  (mRet (mCall 2 0 F_tables_add (mCons (mCall 1 0 F_tables_unit (mCons (mCallB gLen (mCons (mVar 0) mNil)) mNil)) (mCons (mCall 1 0 F_tables_ways (mCons (mVar 0) mNil)) mNil))))
noncomputable def F_tables_star : FM := fnM 1 0 m_tables_star
noncomputable def m_tables_least_above : SM :=
  (mSeq (mIf (mNot (mTst (mCallB gAny (mCons (mLc (mIt (mVar 1)) (gmName 2) mYes (mOp oIsNot (mVar 2) (mC .non)) [2]) mNil)))) (mRet (mVar 1)) mSkip) (mRet (mCall 2 0 F_tables_on_row (mCons (mCall 1 0 F_tables_star (mCons (mVar 0) mNil)) (mCons (mVar 1) mNil)))))
noncomputable def F_tables_least_above : FM := fnM 3 0 m_tables_least_above
noncomputable def m_tables_try_below : SM :=
  (mSeq (mDrop (mCall 1 0 F_tables_check_table (mCons (mVar 0) mNil))) (mSeq (mDrop (mCall 2 0 F_tables_check_row (mCons (mVar 1) (mCons (mCallB gLen (mCons (mVar 0) mNil)) mNil)))) (mSeq (mSet 2 (mLst mNil)) (mSeq (mFor (mIt (mCall 1 0 F_tables_turned (mCons (mVar 0) mNil))) (gmName 3) (mSeq (mSet 4 (mC (.str "free"))) (mSeq (mFor (mIter dZipA (mCons (mVar 3) (mCons (mVar 1) mNil))) (gmTup 2 (gmCons (gmName 5) (gmCons (gmName 6) gmNil))) (mIf (mTst (mOp oIsNot (mVar 5) (mC .non))) (mSeq (mSet 7 (mCall 2 0 F_values_minus (mCons (mVar 6) (mCons (mVar 5) mNil)))) (mSet 4 (mIfE (mTst (mOp oEq (mVar 4) (mC (.str "free")))) (mVar 7) (mCall 2 0 F_values_lesser (mCons (mVar 4) (mCons (mVar 7) mNil)))))) mSkip)) (mApp 2 (mVar 4))))) (mRet (mCallB gTuple (mCons (mVar 2) mNil)))))))
noncomputable def F_tables_try_below : FM := fnM 8 0 m_tables_try_below
noncomputable def m_games_best : SM :=
  (mSeq (mSet 1 (mC .non)) (mSeq (mFor (mIt (mVar 0)) (gmName 2) (mSet 1 (mCall 2 0 F_values_greater (mCons (mVar 1) (mCons (mVar 2) mNil))))) (mRet (mVar 1))))
noncomputable def F_games_best : FM := fnM 3 0 m_games_best
noncomputable def m_games_least : SM :=
  (mSeq (mSet 2 (mLc (mIt (mVar 0)) (gmName 1) (mTst (mOp oIsNot (mVar 1) (mC .non))) (mVar 1) [1])) (mSeq (mIf (mTst (mOp oEq (mVar 2) (mLst mNil))) (mRet (mC .non)) mSkip) (mSeq (mSet 3 (mOp oIx (mVar 2) (mC (.int 0)))) (mSeq (mFor (mIt (mSl oSlL (mVar 2) (mO (mC (.int 1))) mNoO)) (gmName 1) (mSet 3 (mCall 2 0 F_values_lesser (mCons (mVar 3) (mCons (mVar 1) mNil))))) (mRet (mVar 3))))))
noncomputable def F_games_least : FM := fnM 4 0 m_games_least
noncomputable def m_games_lowest : SM :=
  (mSeq (mSet 3 (mLst mNil)) (mSeq (mFor (mIt (mOp oAdd (mVar 0) (mVar 1))) (gmName 4) (mExt 3 (mLc (mIt (mVar 4)) (gmName 9) (mTst (mOp oIsNot (mVar 9) (mC .non))) (mVar 9) [9]))) (mSeq (mSet 5 (mLc (mIt (mVar 2)) (gmName 9) (mTst (mOp oIsNot (mVar 9) (mC .non))) (mVar 9) [9])) (mSeq (mIf (mOr (mTst (mOp oEq (mVar 5) (mLst mNil))) (mTst (mOp oEq (mVar 3) (mLst mNil)))) (mRet (mC d_ratios_ZERO)) mSkip) (mSeq (mSet 6 (mCall 2 0 F_ratios_subtract (mCons (mCall 1 0 F_games_best (mCons (mVar 3) mNil)) (mCons (mCall 1 0 F_games_least (mCons (mVar 3) mNil)) mNil)))) (mSeq (mSet 7 (mCall 1 0 F_games_least (mCons (mVar 5) mNil))) (mSeq (mFor (mIter dRange1 (mCons (mOp oAdd (mOp oMul (mC (.int 2)) (mCallB gLen (mCons (mVar 2) mNil))) (mC (.int 2))) mNil)) (gmName 8) (mSet 7 (mCall 2 0 F_ratios_subtract (mCons (mVar 7) (mCons (mCall 2 0 F_ratios_add (mCons (mVar 6) (mCons (mTup (mCons (mC (.int 1)) (mCons (mC (.int 1)) mNil))) mNil))) mNil))))) (mRet (mVar 7)))))))))
noncomputable def F_games_lowest : FM := fnM 10 0 m_games_lowest
def d_games_MOST_ROUNDS : D := .int 2000
noncomputable def m_games_bigger_side : SM :=
  (mSeq (mDrop (mCall 1 0 F_tables_check_table (mCons (mVar 0) mNil))) (mSeq (mDrop (mCall 1 0 F_tables_check_table (mCons (mVar 1) mNil))) (mSeq (mIf (mOr (mTst (mOp oNe (mCallB gLen (mCons (mVar 0) mNil)) (mCallB gLen (mCons (mVar 1) mNil)))) (mOr (mTst (mOp oNe (mCallB gLen (mCons (mOp oIx (mVar 0) (mC (.int 0))) mNil)) (mCallB gLen (mCons (mOp oIx (mVar 1) (mC (.int 0))) mNil)))) (mTst (mOp oNe (mCallB gLen (mCons (mVar 2) mNil)) (mCallB gLen (mCons (mOp oIx (mVar 0) (mC (.int 0))) mNil)))))) mNever mSkip) (mSeq (mPar2 3 4 (mCallB gTuple (mCons (mVar 2) mNil)) (mC (.int 0))) (mSeq (mSet 5 (mCall 3 0 F_games_lowest (mCons (mVar 0) (mCons (mVar 1) (mCons (mVar 2) mNil))))) (mSeq (mWhile (fun _ _ => 2001) (mTst (mOp oLt (mVar 4) (mC d_games_MOST_ROUNDS))) (mSeq (mSet 6 (mCall 2 0 F_tables_try_below (mCons (mVar 0) (mCons (mCall 2 0 F_tables_on_row (mCons (mVar 1) (mCons (mVar 3) mNil))) mNil)))) (mSeq (mSet 7 (mCallB gTuple (mCons (mLc (mIter dZipA (mCons (mVar 3) (mCons (mVar 6) mNil))) (gmTup 2 (gmCons (gmName 8) (gmCons (gmName 9) gmNil))) mYes (mIfE (mTst (mOp oEq (mVar 9) (mC (.str "free")))) (mVar 8) (mCall 2 0 F_values_lesser (mCons (mVar 8) (mCons (mVar 9) mNil)))) [8, 9]) mNil))) (mSeq (mSet 7 (mCallB gTuple (mCons (mLc (mIt (mVar 7)) (gmName 8) mYes (mIfE (mAnd (mTst (mOp oIsNot (mVar 8) (mC .non))) (mTst (mCall 2 0 F_values_is_less (mCons (mVar 8) (mCons (mVar 5) mNil))))) (mC .non) (mVar 8)) [8]) mNil))) (mSeq (mIf (mTst (mOp oEq (mVar 7) (mVar 3))) (mRet (mVar 3)) mSkip) (mPar2 3 4 (mVar 7) (mOp oAdd (mVar 4) (mC (.int 1))))))))) mNever))))))
noncomputable def F_games_bigger_side : FM := fnM 10 0 m_games_bigger_side
noncomputable def m_games_equal_sides : SM :=
  (mRet (mCall 3 0 F_games_bigger_side (mCons (mOp oAdd (mVar 0) (mVar 1)) (mCons (mOp oAdd (mVar 1) (mVar 0)) (mCons (mVar 2) mNil)))))
noncomputable def F_games_equal_sides : FM := fnM 3 0 m_games_equal_sides
def d_align_LETTERS : D := .str "abcdefgh"
noncomputable def m_align_check_score : SM :=
  (mSeq (mIf (mOr (mNot (mTst (mUn (oIsi "str") (mVar 0)))) (mOr (mTst (mOp oEq (mVar 0) (mC (.str "")))) (mTst (mOp oNe (mVar 0) (mSl oSlT (mC d_align_LETTERS) mNoO (mO (mCallB gLen (mCons (mVar 0) mNil)))))))) mNever mSkip) (mSeq (mIf (mOr (mNot (mTst (mUn (oIsi "tuple") (mVar 1)))) (mTst (mOp oNe (mCallB gLen (mCons (mVar 1) mNil)) (mCallB gLen (mCons (mVar 0) mNil))))) mNever mSkip) (mSeq (mFor (mIt (mVar 1)) (gmName 4) (mIf (mOr (mNot (mTst (mUn (oIsi "tuple") (mVar 4)))) (mOr (mTst (mOp oNe (mCallB gLen (mCons (mVar 4) mNil)) (mCallB gLen (mCons (mVar 0) mNil)))) (mNot (mTst (mCallB gAll (mCons (mLc (mIt (mVar 4)) (gmName 5) mYes (mCall 1 0 F_ratios_is_ratio (mCons (mVar 5) mNil)) [5]) mNil)))))) mNever mSkip)) (mIf (mOr (mNot (mTst (mCall 1 0 F_ratios_is_ratio (mCons (mVar 2) mNil)))) (mOr (mNot (mTst (mCall 1 0 F_ratios_is_ratio (mCons (mVar 3) mNil)))) (mOr (mTst (mCall 2 0 F_ratios_less (mCons (mC d_ratios_ZERO) (mCons (mVar 2) mNil)))) (mTst (mCall 2 0 F_ratios_less (mCons (mC d_ratios_ZERO) (mCons (mVar 3) mNil))))))) mNever mSkip))))
noncomputable def F_align_check_score : FM := fnM 6 0 m_align_check_score
noncomputable def F_align_Score_init : FIM := initM 5 [.chk (mCall 4 0 F_align_check_score (mCons (mVar 1) (mCons (mVar 2) (mCons (mVar 3) (mCons (mVar 4) mNil))))), .par "letters" 1, .par "values" 2, .par "begin" 3, .par "each" 4]
noncomputable def m_align_Score_pair : SM :=
  (mRet (mOp oIx (mOp oIx (mFld "Score" "values" (mVar 0)) (mBm gSIndex (mFld "Score" "letters" (mVar 0)) (mCons (mVar 1) mNil))) (mBm gSIndex (mFld "Score" "letters" (mVar 0)) (mCons (mVar 2) mNil))))
noncomputable def F_align_Score_pair : FM := fnM 3 0 m_align_Score_pair
def d_align_MOST_WORD : D := .int 30
noncomputable def m_align_Score_check_words : SM :=
  (mFor (mIt (mTup (mCons (mVar 1) (mCons (mVar 2) mNil)))) (gmName 3) (mIf (mOr (mNot (mTst (mUn (oIsi "str") (mVar 3)))) (mOr (mTst (mOp oGt (mCallB gLen (mCons (mVar 3) mNil)) (mC d_align_MOST_WORD))) (mTst (mCallB gAny (mCons (mLc (mIt (mVar 3)) (gmName 4) mYes (mOp oNotIn (mVar 4) (mFld "Score" "letters" (mVar 0))) [4]) mNil))))) mNever mSkip))
noncomputable def F_align_Score_check_words : FM := fnM 5 0 m_align_Score_check_words
noncomputable def m_law_value : SM :=
  (mRet (mIfE (mTst (mOp oLt (mCall 2 0 F_draw (mCons (mVar 0) (mCons (mC (.int 10)) mNil))) (mVar 1))) (mC .non) (mCall 1 0 F_law_number (mCons (mVar 0) mNil))))
noncomputable def F_law_value : FM := fnM 2 0 m_law_value
noncomputable def m_law_table : SM :=
  (mRet (mCallB gTuple (mCons (mLc (mIter dRange1 (mCons (mVar 1) mNil)) (gmName 4) mYes (mCallB gTuple (mCons (mLc (mIter dRange1 (mCons (mVar 2) mNil)) (gmName 5) mYes (mCall 2 0 F_law_value (mCons (mVar 0) (mCons (mVar 3) mNil))) [5]) mNil)) [4]) mNil)))
noncomputable def F_law_table : FM := fnM 6 0 m_law_table
noncomputable def m_law_word : SM :=
  (mRet (mBm gJoin (mC (.str "")) (mCons (mLc (mIter dRange1 (mCons (mCall 2 0 F_draw (mCons (mVar 0) (mCons (mOp oAdd (mVar 2) (mC (.int 1))) mNil))) mNil)) (gmName 3) mYes (mCall 2 0 F_law_pick (mCons (mVar 0) (mCons (mVar 1) mNil))) [3]) mNil)))
noncomputable def F_law_word : FM := fnM 4 0 m_law_word
noncomputable def m_align_Score_tables : SM :=
  (mSeq (mDrop (mMeth "Score" "check_words" 3 0 F_align_Score_check_words (mVar 0) (mCons (mVar 1) (mCons (mVar 2) mNil)))) (mSeq (mSet 3 (mOp oAdd (mCallB gLen (mCons (mVar 2) mNil)) (mC (.int 1)))) (mSeq (mPar3 4 5 6 (mLst mNil) (mLst mNil) (mLst mNil)) (mSeq (mFor (mIter dRange1 (mCons (mOp oAdd (mCallB gLen (mCons (mVar 1) mNil)) (mC (.int 1))) mNil)) (gmName 7) (mSeq (mApp 4 (mOp oRep (mLst (mCons (mC .non) mNil)) (mVar 3))) (mSeq (mApp 5 (mOp oRep (mLst (mCons (mC .non) mNil)) (mVar 3))) (mSeq (mApp 6 (mOp oRep (mLst (mCons (mC .non) mNil)) (mVar 3))) (mFor (mIter dRange1 (mCons (mVar 3) mNil)) (gmName 8) (mSeq (mIf (mAnd (mTst (mOp oEq (mVar 7) (mC (.int 0)))) (mTst (mOp oEq (mVar 8) (mC (.int 0))))) (mSetI2 4 (mC (.int 0)) (mC (.int 0)) (mC d_ratios_ZERO)) mSkip) (mSeq (mIf (mAnd (mTst (mOp oGt (mVar 7) (mC (.int 0)))) (mTst (mOp oGt (mVar 8) (mC (.int 0))))) (mSeq (mSet 9 (mCall 1 0 F_values_greatest (mCons (mLst (mCons (mOp oIx (mOp oIx (mVar 4) (mOp oSub (mVar 7) (mC (.int 1)))) (mOp oSub (mVar 8) (mC (.int 1)))) (mCons (mOp oIx (mOp oIx (mVar 5) (mOp oSub (mVar 7) (mC (.int 1)))) (mOp oSub (mVar 8) (mC (.int 1)))) (mCons (mOp oIx (mOp oIx (mVar 6) (mOp oSub (mVar 7) (mC (.int 1)))) (mOp oSub (mVar 8) (mC (.int 1)))) mNil)))) mNil))) (mSetI2 4 (mVar 7) (mVar 8) (mCall 2 0 F_values_plus (mCons (mVar 9) (mCons (mMeth "Score" "pair" 3 0 F_align_Score_pair (mVar 0) (mCons (mOp oIx (mVar 1) (mOp oSub (mVar 7) (mC (.int 1)))) (mCons (mOp oIx (mVar 2) (mOp oSub (mVar 8) (mC (.int 1)))) mNil))) mNil))))) mSkip) (mSeq (mIf (mTst (mOp oGt (mVar 7) (mC (.int 0)))) (mSeq (mSet 10 (mCall 2 0 F_values_plus (mCons (mCall 2 0 F_values_greater (mCons (mOp oIx (mOp oIx (mVar 4) (mOp oSub (mVar 7) (mC (.int 1)))) (mVar 8)) (mCons (mOp oIx (mOp oIx (mVar 6) (mOp oSub (mVar 7) (mC (.int 1)))) (mVar 8)) mNil))) (mCons (mFld "Score" "begin" (mVar 0)) mNil)))) (mSetI2 5 (mVar 7) (mVar 8) (mCall 2 0 F_values_plus (mCons (mCall 2 0 F_values_greater (mCons (mVar 10) (mCons (mOp oIx (mOp oIx (mVar 5) (mOp oSub (mVar 7) (mC (.int 1)))) (mVar 8)) mNil))) (mCons (mFld "Score" "each" (mVar 0)) mNil))))) mSkip) (mIf (mTst (mOp oGt (mVar 8) (mC (.int 0)))) (mSeq (mSet 10 (mCall 2 0 F_values_plus (mCons (mCall 2 0 F_values_greater (mCons (mOp oIx (mOp oIx (mVar 4) (mVar 7)) (mOp oSub (mVar 8) (mC (.int 1)))) (mCons (mOp oIx (mOp oIx (mVar 5) (mVar 7)) (mOp oSub (mVar 8) (mC (.int 1)))) mNil))) (mCons (mFld "Score" "begin" (mVar 0)) mNil)))) (mSetI2 6 (mVar 7) (mVar 8) (mCall 2 0 F_values_plus (mCons (mCall 2 0 F_values_greater (mCons (mVar 10) (mCons (mOp oIx (mOp oIx (mVar 6) (mVar 7)) (mOp oSub (mVar 8) (mC (.int 1)))) mNil))) (mCons (mFld "Score" "each" (mVar 0)) mNil))))) mSkip))))))))) (mRet (mTup (mCons (mVar 4) (mCons (mVar 5) (mCons (mVar 6) mNil)))))))))
noncomputable def F_align_Score_tables : FM := fnM 11 1002 m_align_Score_tables
noncomputable def m_align_Score_best : SM :=
  (mRet (mCall 1 0 F_values_greatest (mCons (mLc (mIt (mMethT "Score" "tables" 3 2 F_align_Score_tables (mVar 0) (mCons (mVar 1) (mCons (mVar 2) mNil)))) (gmName 3) mYes (mOp oIx (mOp oIx (mVar 3) (mUn oNeg (mC (.int 1)))) (mUn oNeg (mC (.int 1)))) [3]) mNil)))
noncomputable def F_align_Score_best : FM := fnM 4 0 m_align_Score_best
noncomputable def m_values_mean : SM :=
  (mRet (mCall 2 0 F_ratios_make (mCons (mOp oIx (mVar 0) (mC (.int 0))) (mCons (mOp oMul (mOp oIx (mVar 0) (mC (.int 1))) (mVar 1)) mNil))))
noncomputable def F_values_mean : FM := fnM 2 0 m_values_mean
noncomputable def m_concave_steps : SM :=
  (mRet (mLc (mIter dZipA (mCons (mVar 0) (mCons (mSl oSlT (mVar 0) (mO (mC (.int 1))) mNoO) mNil))) (gmTup 2 (gmCons (gmName 1) (gmCons (gmName 2) gmNil))) mYes (mCall 2 0 F_ratios_subtract (mCons (mVar 2) (mCons (mVar 1) mNil))) [1, 2]))
noncomputable def F_concave_steps : FM := fnM 3 1 m_concave_steps
def d_concave_MOST_ITEMS : D := .int 40
noncomputable def m_concave_is_row : SM :=
  (mSeq (mIf (mOr (mNot (mTst (mUn (oIsi "tuple") (mVar 0)))) (mOr (mTst (mOp oEq (mVar 0) (mTup mNil))) (mTst (mOp oGt (mCallB gLen (mCons (mVar 0) mNil)) (mC d_concave_MOST_ITEMS))))) (mRet (mC (.bl false))) mSkip) (mSeq (mIf (mNot (mTst (mCallB gAll (mCons (mLc (mIt (mVar 0)) (gmName 2) mYes (mCall 1 0 F_ratios_is_ratio (mCons (mVar 2) mNil)) [2]) mNil)))) (mRet (mC (.bl false))) mSkip) (mSeq (mSet 1 (mCall 1 1 F_concave_steps (mCons (mVar 0) mNil))) (mRet (mNotV (mCallB gAny (mCons (mLc (mIter dZipA (mCons (mVar 1) (mCons (mSl oSlL (mVar 1) (mO (mC (.int 1))) mNoO) mNil))) (gmTup 2 (gmCons (gmName 3) (gmCons (gmName 4) gmNil))) mYes (mCall 2 0 F_ratios_less (mCons (mVar 3) (mCons (mVar 4) mNil))) [3, 4]) mNil)))))))
noncomputable def F_concave_is_row : FM := fnM 5 0 m_concave_is_row
noncomputable def m_concave_check_row : SM :=
  (mIf (mNot (mTst (mCall 1 0 F_concave_is_row (mCons (mVar 0) mNil)))) mNever mSkip)
noncomputable def F_concave_check_row : FM := fnM 1 0 m_concave_check_row
noncomputable def m_concave_summed : SM :=
  (mSeq (mDrop (mCall 1 0 F_concave_check_row (mCons (mVar 0) mNil))) (mSeq (mDrop (mCall 1 0 F_concave_check_row (mCons (mVar 1) mNil))) (mSeq (mPar3 2 3 4 (mLst (mCons (mCall 2 0 F_ratios_add (mCons (mOp oIx (mVar 0) (mC (.int 0))) (mCons (mOp oIx (mVar 1) (mC (.int 0))) mNil))) mNil)) (mCall 1 1 F_concave_steps (mCons (mVar 0) mNil)) (mCall 1 1 F_concave_steps (mCons (mVar 1) mNil))) (mSeq (mWhile (fun _ _ => 1000) (mOr (mTst (mOp oNe (mVar 3) (mLst mNil))) (mTst (mOp oNe (mVar 4) (mLst mNil)))) (mIf (mOr (mTst (mOp oEq (mVar 4) (mLst mNil))) (mAnd (mTst (mOp oNe (mVar 3) (mLst mNil))) (mNot (mTst (mCall 2 0 F_ratios_less (mCons (mOp oIx (mVar 3) (mC (.int 0))) (mCons (mOp oIx (mVar 4) (mC (.int 0))) mNil))))))) (mAppX 2 (mCallX F_ratios_add (mOp oIx (mVar 2) (mUn oNeg (mC (.int 1)))) (mPopAt 3 (mC (.int 0))))) (mAppX 2 (mCallX F_ratios_add (mOp oIx (mVar 2) (mUn oNeg (mC (.int 1)))) (mPopAt 4 (mC (.int 0))))))) (mRet (mCallB gTuple (mCons (mVar 2) mNil)))))))
noncomputable def F_concave_summed : FM := fnM 5 0 m_concave_summed
def d_concave_MOST_ROWS : D := .int 8
noncomputable def m_concave_shares : SM :=
  (mSeq (mFor (mIt (mVar 0)) (gmName 2) (mDrop (mCall 1 0 F_concave_check_row (mCons (mVar 2) mNil)))) (mSeq (mIf (mOr (mNot (mTst (mUn (oIsi "tuple") (mVar 0)))) (mOr (mTst (mOp oEq (mVar 0) (mTup mNil))) (mOr (mTst (mOp oGt (mCallB gLen (mCons (mVar 0) mNil)) (mC d_concave_MOST_ROWS))) (mOr (mNot (mTst (mCall 1 0 F_ratios_is_integer (mCons (mVar 1) mNil)))) (mTst (mOp oLt (mVar 1) (mC (.int 0)))))))) mNever mSkip) (mSeq (mIf (mTst (mOp oGt (mVar 1) (mCallB gSum (mCons (mLc (mIt (mVar 0)) (gmName 2) mYes (mOp oSub (mCallB gLen (mCons (mVar 2) mNil)) (mC (.int 1))) [2]) mNil)))) mNever mSkip) (mSeq (mSet 3 (mOp oRep (mLst (mCons (mC (.int 0)) mNil)) (mCallB gLen (mCons (mVar 0) mNil)))) (mSeq (mFor (mIter dRange1 (mCons (mVar 1) mNil)) (gmName 4) (mSeq (mSet 5 (mC .non)) (mSeq (mFor (mIter dEnumA (mCons (mVar 0) mNil)) (gmTup 2 (gmCons (gmName 6) (gmCons (gmName 2) gmNil))) (mIf (mTst (mOp oLt (mOp oAdd (mOp oIx (mVar 3) (mVar 6)) (mC (.int 1))) (mCallB gLen (mCons (mVar 2) mNil)))) (mSeq (mSet 7 (mCall 2 0 F_ratios_subtract (mCons (mOp oIx (mVar 2) (mOp oAdd (mOp oIx (mVar 3) (mVar 6)) (mC (.int 1)))) (mCons (mOp oIx (mVar 2) (mOp oIx (mVar 3) (mVar 6))) mNil)))) (mIf (mOr (mTst (mOp oIs (mVar 5) (mC .non))) (mTst (mCall 2 0 F_ratios_less (mCons (mOp oIx (mVar 5) (mC (.int 0))) (mCons (mVar 7) mNil))))) (mSet 5 (mTup (mCons (mVar 7) (mCons (mVar 6) mNil)))) mSkip)) mSkip)) (mAugI 3 (fun i j => i + j) (mOp oIx (mVar 5) (mC (.int 1))) (mC (.int 1)))))) (mRet (mCallB gTuple (mCons (mVar 3) mNil))))))))
noncomputable def F_concave_shares : FM := fnM 8 0 m_concave_shares
noncomputable def m_concave_worth : SM :=
  (mSeq (mSet 2 (mC d_ratios_ZERO)) (mSeq (mFor (mIter dZipA (mCons (mVar 0) (mCons (mVar 1) mNil))) (gmTup 2 (gmCons (gmName 3) (gmCons (gmName 4) gmNil))) (mSeq (mIf (mOr (mNot (mTst (mCall 1 0 F_ratios_is_integer (mCons (mVar 4) mNil)))) (mOr (mTst (mOp oLt (mVar 4) (mC (.int 0)))) (mTst (mOp oGe (mVar 4) (mCallB gLen (mCons (mVar 3) mNil)))))) mNever mSkip) (mSet 2 (mCall 2 0 F_ratios_add (mCons (mVar 2) (mCons (mOp oIx (mVar 3) (mVar 4)) mNil)))))) (mRet (mVar 2))))
noncomputable def F_concave_worth : FM := fnM 5 0 m_concave_worth
noncomputable def m_concave_price : SM :=
  (mSeq (mSet 2 (mCall 2 0 F_concave_shares (mCons (mVar 0) (mCons (mVar 1) mNil)))) (mSeq (mSet 3 (mLc (mIter dZipA (mCons (mVar 0) (mCons (mVar 2) mNil))) (gmTup 2 (gmCons (gmName 7) (gmCons (gmName 8) gmNil))) (mTst (mOp oGt (mVar 8) (mC (.int 0)))) (mCall 2 0 F_ratios_subtract (mCons (mOp oIx (mVar 7) (mVar 8)) (mCons (mOp oIx (mVar 7) (mOp oSub (mVar 8) (mC (.int 1)))) mNil))) [7, 8])) (mSeq (mSet 4 (mLc (mIter dZipA (mCons (mVar 0) (mCons (mVar 2) mNil))) (gmTup 2 (gmCons (gmName 7) (gmCons (gmName 8) gmNil))) (mTst (mOp oLt (mOp oAdd (mVar 8) (mC (.int 1))) (mCallB gLen (mCons (mVar 7) mNil)))) (mCall 2 0 F_ratios_subtract (mCons (mOp oIx (mVar 7) (mOp oAdd (mVar 8) (mC (.int 1)))) (mCons (mOp oIx (mVar 7) (mVar 8)) mNil))) [7, 8])) (mSeq (mIf (mTst (mOp oEq (mVar 3) (mLst mNil))) (mRet (mCall 1 0 F_values_greatest (mCons (mVar 4) mNil))) mSkip) (mSeq (mSet 5 (mOp oIx (mVar 3) (mC (.int 0)))) (mSeq (mFor (mIt (mSl oSlL (mVar 3) (mO (mC (.int 1))) mNoO)) (gmName 6) (mSet 5 (mIfE (mTst (mCall 2 0 F_ratios_less (mCons (mVar 6) (mCons (mVar 5) mNil)))) (mVar 6) (mVar 5)))) (mRet (mVar 5))))))))
noncomputable def F_concave_price : FM := fnM 9 0 m_concave_price
noncomputable def m_concave_is_bend : SM :=
  (mSeq (mSet 3 (mCall 2 0 F_ratios_subtract (mCons (mOp oIx (mVar 1) (mC (.int 1))) (mCons (mOp oIx (mVar 0) (mC (.int 1))) mNil)))) (mSeq (mSet 4 (mCall 2 0 F_ratios_subtract (mCons (mOp oIx (mVar 2) (mC (.int 1))) (mCons (mOp oIx (mVar 1) (mC (.int 1))) mNil)))) (mRet (mOp oGt (mOp oMul (mOp oMul (mOp oIx (mVar 3) (mC (.int 0))) (mOp oSub (mOp oIx (mVar 2) (mC (.int 0))) (mOp oIx (mVar 1) (mC (.int 0))))) (mOp oIx (mVar 4) (mC (.int 1)))) (mOp oMul (mOp oMul (mOp oIx (mVar 4) (mC (.int 0))) (mOp oSub (mOp oIx (mVar 1) (mC (.int 0))) (mOp oIx (mVar 0) (mC (.int 0))))) (mOp oIx (mVar 3) (mC (.int 1))))))))
noncomputable def F_concave_is_bend : FM := fnM 5 0 m_concave_is_bend
noncomputable def m_concave_hull : SM :=
  (mSeq (mIf (mOr (mNot (mTst (mUn (oIsi "tuple") (mVar 0)))) (mOr (mTst (mOp oEq (mVar 0) (mTup mNil))) (mOr (mTst (mOp oGt (mCallB gLen (mCons (mVar 0) mNil)) (mC d_concave_MOST_ITEMS))) (mNot (mTst (mCallB gAll (mCons (mLc (mIt (mVar 0)) (gmName 1) mYes (mCall 1 0 F_ratios_is_ratio (mCons (mVar 1) mNil)) [1]) mNil))))))) mNever mSkip) (mSeq (mSet 2 (mLst mNil)) (mSeq (mFor (mIter dEnumA (mCons (mVar 0) mNil)) (gmTup 2 (gmCons (gmName 3) (gmCons (gmName 1) gmNil))) (mSeq (mWhile (fun _ _ => 1000) (mAnd (mTst (mOp oGt (mCallB gLen (mCons (mVar 2) mNil)) (mC (.int 1)))) (mNot (mTst (mCall 3 0 F_concave_is_bend (mCons (mOp oIx (mVar 2) (mUn oNeg (mC (.int 2)))) (mCons (mOp oIx (mVar 2) (mUn oNeg (mC (.int 1)))) (mCons (mTup (mCons (mVar 3) (mCons (mVar 1) mNil))) mNil))))))) (mDropX (mPop 2))) (mApp 2 (mTup (mCons (mVar 3) (mCons (mVar 1) mNil)))))) (mSeq (mSet 4 (mLst mNil)) (mSeq (mFor (mIter dZipA (mCons (mVar 2) (mCons (mSl oSlL (mVar 2) (mO (mC (.int 1))) mNoO) mNil))) (gmTup 2 (gmCons (gmTup 2 (gmCons (gmName 5) (gmCons (gmName 6) gmNil))) (gmCons (gmTup 2 (gmCons (gmName 7) (gmCons (gmName 8) gmNil))) gmNil))) (mSeq (mSet 9 (mCall 2 0 F_ratios_subtract (mCons (mVar 8) (mCons (mVar 6) mNil)))) (mExt 4 (mLc (mIter dRange1 (mCons (mOp oSub (mVar 7) (mVar 5)) mNil)) (gmName 10) mYes (mCall 2 0 F_ratios_add (mCons (mVar 6) (mCons (mTup (mCons (mOp oMul (mOp oIx (mVar 9) (mC (.int 0))) (mVar 10)) (mCons (mOp oMul (mOp oIx (mVar 9) (mC (.int 1))) (mOp oSub (mVar 7) (mVar 5))) mNil))) mNil))) [10])))) (mRet (mOp oAdd (mCallB gTuple (mCons (mVar 4) mNil)) (mTup (mCons (mOp oIx (mOp oIx (mVar 2) (mUn oNeg (mC (.int 1)))) (mC (.int 1))) mNil)))))))))
noncomputable def F_concave_hull : FM := fnM 11 0 m_concave_hull
noncomputable def m_polys_between : SM :=
  (mRet (mCall 2 0 F_values_plus (mCons (mVar 1) (mCons (mCall 2 0 F_values_mean (mCons (mCall 2 0 F_ratios_multiply (mCons (mCall 2 0 F_ratios_subtract (mCons (mVar 3) (mCons (mVar 1) mNil))) (mCons (mTup (mCons (mOp oSub (mVar 4) (mVar 0)) (mCons (mC (.int 1)) mNil))) mNil))) (mCons (mOp oSub (mVar 2) (mVar 0)) mNil))) mNil))))
noncomputable def F_polys_between : FM := fnM 5 0 m_polys_between
noncomputable def m_polys_full : SM :=
  (mSeq (mDrop (mCall 1 0 F_polys_check_poly (mCons (mVar 0) mNil))) (mSeq (mSet 2 (mLc (mIter dEnumA (mCons (mVar 0) mNil)) (gmTup 2 (gmCons (gmName 1) (gmCons (gmName 7) gmNil))) (mTst (mOp oIsNot (mVar 7) (mC .non))) (mVar 1) [1, 7])) (mSeq (mSet 3 (mLst mNil)) (mSeq (mFor (mIter dRange1 (mCons (mCallB gLen (mCons (mVar 0) mNil)) mNil)) (gmName 1) (mSeq (mSet 4 (mOp oIx (mVar 0) (mVar 1))) (mSeq (mFor (mIt (mVar 2)) (gmName 5) (mFor (mIt (mVar 2)) (gmName 6) (mIf (mAnd (mTst (mOp oLt (mVar 5) (mVar 1))) (mTst (mOp oLt (mVar 1) (mVar 6)))) (mSet 4 (mCall 2 0 F_values_greater (mCons (mVar 4) (mCons (mCall 5 0 F_polys_between (mCons (mVar 5) (mCons (mOp oIx (mVar 0) (mVar 5)) (mCons (mVar 6) (mCons (mOp oIx (mVar 0) (mVar 6)) (mCons (mVar 1) mNil)))))) mNil)))) mSkip))) (mApp 3 (mVar 4))))) (mRet (mCallB gTuple (mCons (mVar 3) mNil)))))))
noncomputable def F_polys_full : FM := fnM 8 0 m_polys_full
noncomputable def m_polys_is_full : SM :=
  (mRet (mOp oEq (mCall 1 0 F_polys_full (mCons (mVar 0) mNil)) (mVar 0)))
noncomputable def F_polys_is_full : FM := fnM 1 0 m_polys_is_full
noncomputable def m_polys_sorted_pairs : SM :=
  (mSeq (mSet 1 (mLst mNil)) (mSeq (mFor (mIt (mVar 0)) (gmName 2) (mSeq (mSet 3 (mCallB gLen (mCons (mLc (mIt (mVar 1)) (gmName 4) (mTst (mCall 2 0 F_values_is_less (mCons (mOp oIx (mVar 4) (mC (.int 0))) (mCons (mOp oIx (mVar 2) (mC (.int 0))) mNil)))) (mVar 4) [4]) mNil))) (mSet 1 (mOp oCat (mOp oCat (mSl oSlL (mVar 1) mNoO (mO (mVar 3))) (mLst (mCons (mVar 2) mNil))) (mSl oSlL (mVar 1) (mO (mVar 3)) mNoO))))) (mRet (mVar 1))))
noncomputable def F_polys_sorted_pairs : FM := fnM 5 1 m_polys_sorted_pairs
noncomputable def m_polys_corners : SM :=
  (mSeq (mIf (mTst (mOp oEq (mVar 0) (mTup mNil))) mNever mSkip) (mSeq (mSet 1 (mCall 1 0 F_polys_full (mCons (mVar 0) mNil))) (mSeq (mSet 3 (mOp oIx (mLc (mIter dEnumA (mCons (mVar 1) mNil)) (gmTup 2 (gmCons (gmName 2) (gmCons (gmName 6) gmNil))) (mTst (mOp oIsNot (mVar 6) (mC .non))) (mVar 2) [2, 6]) (mC (.int 0)))) (mSeq (mSet 4 (mIfE (mTst (mOp oGt (mVar 3) (mC (.int 0)))) (mLst (mCons (mTup (mCons (mC .non) (mCons (mVar 3) mNil))) mNil)) (mLst mNil))) (mSeq (mFor (mIter dRangeD (mCons (mOp oSub (mCallB gLen (mCons (mVar 1) mNil)) (mC (.int 1))) (mCons (mVar 3) (mCons (mUn oNeg (mC (.int 1))) mNil)))) (gmName 2) (mSeq (mSet 5 (mCall 2 0 F_ratios_subtract (mCons (mOp oIx (mVar 1) (mOp oSub (mVar 2) (mC (.int 1)))) (mCons (mOp oIx (mVar 1) (mVar 2)) mNil)))) (mIf (mAnd (mTst (mOp oNe (mVar 4) (mLst mNil))) (mTst (mOp oEq (mOp oIx (mOp oIx (mVar 4) (mUn oNeg (mC (.int 1)))) (mC (.int 0))) (mVar 5)))) (mSetI 4 (mUn oNeg (mC (.int 1))) (mTup (mCons (mVar 5) (mCons (mOp oAdd (mOp oIx (mOp oIx (mVar 4) (mUn oNeg (mC (.int 1)))) (mC (.int 1))) (mC (.int 1))) mNil)))) (mApp 4 (mTup (mCons (mVar 5) (mCons (mC (.int 1)) mNil))))))) (mRet (mIfE (mTst (mOp oGt (mVar 3) (mC (.int 0)))) (mCallB gTuple (mCons (mOp oCat (mSl oSlL (mVar 4) mNoO (mO (mC (.int 1)))) (mCall 1 1 F_polys_sorted_pairs (mCons (mSl oSlL (mVar 4) (mO (mC (.int 1))) mNoO) mNil))) mNil)) (mCallB gTuple (mCons (mCall 1 1 F_polys_sorted_pairs (mCons (mVar 4) mNil)) mNil)))))))))
noncomputable def F_polys_corners : FM := fnM 7 0 m_polys_corners
noncomputable def m_polys_from_corners : SM :=
  (mSeq (mSet 2 (mTup (mCons (mVar 0) mNil))) (mSeq (mFor (mIt (mVar 1)) (gmTup 2 (gmCons (gmName 3) (gmCons (gmName 4) gmNil))) (mFor (mIter dRange1 (mCons (mVar 4) mNil)) (gmName 5) (mSet 2 (mCall 2 0 F_polys_product (mCons (mVar 2) (mCons (mTup (mCons (mVar 3) (mCons (mC d_ratios_ZERO) mNil))) mNil)))))) (mRet (mVar 2))))
noncomputable def F_polys_from_corners : FM := fnM 6 0 m_polys_from_corners
noncomputable def m_law_minus : SM :=
  (mRet (mIfE (mTst (mOp oIs (mVar 0) (mC .non))) (mC .non) (mCall 2 0 F_law_frac (mCons (mOp oSub (mOp oMul (mOp oIx (mVar 0) (mC (.int 0))) (mOp oIx (mVar 1) (mC (.int 1)))) (mOp oMul (mOp oIx (mVar 1) (mC (.int 0))) (mOp oIx (mVar 0) (mC (.int 1))))) (mCons (mOp oMul (mOp oIx (mVar 0) (mC (.int 1))) (mOp oIx (mVar 1) (mC (.int 1)))) mNil)))))
noncomputable def F_law_minus : FM := fnM 2 0 m_law_minus
noncomputable def m_law_times : SM :=
  (mRet (mCall 2 0 F_law_frac (mCons (mOp oMul (mOp oIx (mVar 0) (mC (.int 0))) (mVar 1)) (mCons (mOp oIx (mVar 0) (mC (.int 1))) mNil))))
noncomputable def F_law_times : FM := fnM 2 0 m_law_times
noncomputable def m_law_row : SM :=
  (mSeq (mSet 1 (mLst mNil)) (mSeq (mFor (mIter dRange1 (mCons (mCall 2 0 F_draw (mCons (mVar 0) (mCons (mC (.int 5)) mNil))) mNil)) (gmName 2) (mSeq (mSet 3 (mCall 1 0 F_law_number (mCons (mVar 0) mNil))) (mSeq (mSet 4 (mCallB gLen (mCons (mLc (mIt (mVar 1)) (gmName 6) (mNot (mTst (mCall 2 0 F_law_below (mCons (mVar 6) (mCons (mVar 3) mNil))))) (mVar 6) [6]) mNil))) (mSet 1 (mOp oCat (mOp oCat (mSl oSlL (mVar 1) mNoO (mO (mVar 4))) (mLst (mCons (mVar 3) mNil))) (mSl oSlL (mVar 1) (mO (mVar 4)) mNoO)))))) (mSeq (mSet 5 (mTup (mCons (mCall 1 0 F_law_number (mCons (mVar 0) mNil)) mNil))) (mSeq (mFor (mIt (mVar 1)) (gmName 3) (mSet 5 (mOp oAdd (mVar 5) (mTup (mCons (mCall 2 0 F_law_plus (mCons (mOp oIx (mVar 5) (mUn oNeg (mC (.int 1)))) (mCons (mVar 3) mNil))) mNil))))) (mRet (mVar 5))))))
noncomputable def F_law_row : FM := fnM 7 0 m_law_row
noncomputable def m_law_corners : SM :=
  (mSeq (mSet 1 (mLst mNil)) (mSeq (mFor (mIter dZipA (mCons (mVar 0) (mCons (mSl oSlT (mVar 0) (mO (mC (.int 1))) mNoO) mNil))) (gmTup 2 (gmCons (gmName 2) (gmCons (gmName 3) gmNil))) (mSeq (mSet 4 (mCall 2 0 F_law_minus (mCons (mVar 2) (mCons (mVar 3) mNil)))) (mIf (mAnd (mTst (mOp oGt (mCallB gLen (mCons (mVar 1) mNil)) (mC (.int 0)))) (mTst (mOp oEq (mOp oIx (mOp oIx (mVar 1) (mUn oNeg (mC (.int 1)))) (mC (.int 0))) (mVar 4)))) (mSetI 1 (mUn oNeg (mC (.int 1))) (mTup (mCons (mVar 4) (mCons (mOp oAdd (mOp oIx (mOp oIx (mVar 1) (mUn oNeg (mC (.int 1)))) (mC (.int 1))) (mC (.int 1))) mNil)))) (mApp 1 (mTup (mCons (mVar 4) (mCons (mC (.int 1)) mNil))))))) (mRet (mCallB gTuple (mCons (mVar 1) mNil)))))
noncomputable def F_law_corners : FM := fnM 5 0 m_law_corners
end FL.L
set_option maxRecDepth 100000
set_option maxHeartbeats 4000000
noncomputable section
namespace FL.L
open PySem PySem.Spec PyProof.Rows L2 FL
theorem is_integer_ev (i : Int) (t : Tape) : F_ratios_is_integer [.int i] t = some (.bl true, t) := by
  simp! [F_ratios_is_integer, m_ratios_is_integer]
theorem gcd_go {a b : Nat} (h : 0 < b) : Nat.gcd b (a % b) = Nat.gcd a b := by
  rw [Nat.gcd_comm b, ← Nat.gcd_rec, Nat.gcd_comm]
theorem while_gcd (t : Tape) : ∀ (n a b : Nat), b < n → whileN (mTst (mOp oGt (mVar 1) (mC (.int 0)))) (mPar2 0 1 (mVar 1) (mOp oMod (mVar 0) (mVar 1))) n [some (.int a), some (.int b)] t = some (.nx [some (.int (Nat.gcd a b)), some (.int 0)] t)
  | 0, a, b, h => absurd h (Nat.not_lt_zero _)
  | n + 1, a, b, h => by
    unfold whileN
    by_cases hb : b = 0
    · subst hb
      simp! [Nat.gcd_zero_right]
    · have h0 : (0 : Int) < b := by omega
      simp! [h0, oMod_int h0]
      have := while_gcd t n b (a % b) (Nat.lt_of_lt_of_le (Nat.mod_lt _ (by omega)) (by omega))
      rw [gcd_go (by omega)] at this
      exact this
theorem divisor_ev (a b : Int) (t : Tape) : F_ratios_divisor [.int a, .int b] t = some (.int (Nat.gcd a.natAbs b.natAbs), t) := by
  have ha : (if a < 0 then -a else a) = (a.natAbs : Nat) := by split <;> omega
  have hb : (if b < 0 then -b else b) = (b.natAbs : Nat) := by split <;> omega
  simp! [F_ratios_divisor, m_ratios_divisor, ha, hb, mWhile]
  rw [while_gcd _ _ _ _ (by omega)]
  rfl
/-- the fractions of the program -/
def rD (q : Rat) : D := .tup [.int q.num, .int q.den]
def vD : Option Rat → D
  | none => .non
  | some q => rD q
/-- not too great for the operators -/
def R0 (q : Rat) : Prop := q.num.natAbs < 2 ^ 1900 ∧ q.den < 2 ^ 1900
theorem R0.smn {q : Rat} (h : R0 q) : Sm q.num := Nat.lt_of_lt_of_le h.1 (Nat.pow_le_pow_right (by decide) (by decide))
theorem R0.smd {q : Rat} (h : R0 q) : Sm (q.den : Int) := by
  have := h.2
  unfold Sm
  rw [Int.natAbs_natCast]
  exact Nat.lt_of_lt_of_le this (Nat.pow_le_pow_right (by decide) (by decide))
theorem is_ratio_ev (q : Rat) (t : Tape) : F_ratios_is_ratio [rD q] t = some (.bl true, t) := by
  have hd : (0 : Int) < q.den := by have := q.den_pos; omega
  have hg : Nat.gcd q.num.natAbs q.den = 1 := q.reduced
  simp! [F_ratios_is_ratio, m_ratios_is_ratio, rD, gAll, mLc, lcL, is_integer_ev, bls, divisor_ev, hd, Int.natAbs_natCast, hg]

theorem two_pow_le {a b : Nat} (h : a ≤ b) : 2 ^ a ≤ 2 ^ b := Nat.pow_le_pow_right (by decide) h
theorem make_ev (a : Int) (b : Nat) (hb : b ≠ 0) (hs : Sm (b : Int)) (t : Tape) : F_ratios_make [.int a, .int b] t = some (rD (Rat.normalize a b hb), t) := by
  have hb0 : ¬ ((b : Int) = 0) := by omega
  have hb1 : ¬ ((b : Int) < 0) := by omega
  have hg0 : (0 : Int) < ((Nat.gcd a.natAbs b : Nat) : Int) := by
    have := Nat.gcd_pos_of_pos_right a.natAbs (show 0 < b by omega); omega
  have hg1 : Sm ((Nat.gcd a.natAbs b : Nat) : Int) := by
    have h1 := Nat.gcd_le_right a.natAbs (show 0 < b by omega)
    unfold Sm at hs ⊢
    rw [Int.natAbs_natCast] at hs ⊢
    exact Nat.lt_of_le_of_lt h1 hs
  simp! [F_ratios_make, m_ratios_make, hb0, hb1, divisor_ev, Int.natAbs_natCast, oDiv_int hg0 hg1]
  rw [Rat.normalize_eq]
  simp only [rD, Int.natCast_ediv]
theorem smd2 {a b : Rat} (ha : R0 a) (hb : R0 b) : Sm ((a.den : Int) * b.den) := by
  unfold Sm
  rw [Int.natAbs_mul, Int.natAbs_natCast, Int.natAbs_natCast]
  exact Nat.lt_of_lt_of_le (Nat.mul_lt_mul'' ha.2 hb.2) (by rw [← Nat.pow_add]; exact two_pow_le (by decide))
theorem add_ev {a b : Rat} (ha : R0 a) (hb : R0 b) (t : Tape) : F_ratios_add [rD a, rD b] t = some (rD (a + b), t) := by
  have hs := smd2 ha hb
  rw [← Int.natCast_mul] at hs
  simp! [F_ratios_add, m_ratios_add, rD, oMul_int ha.smn hb.smd, oMul_int hb.smn ha.smd, oMul_int ha.smd hb.smd]
  rw [← Int.natCast_mul, make_ev _ _ (Nat.mul_ne_zero a.den_nz b.den_nz) hs, ← Rat.add_def]
  simp! [rD]
theorem multiply_ev {a b : Rat} (ha : R0 a) (hb : R0 b) (t : Tape) : F_ratios_multiply [rD a, rD b] t = some (rD (a * b), t) := by
  have hs := smd2 ha hb
  rw [← Int.natCast_mul] at hs
  simp! [F_ratios_multiply, m_ratios_multiply, rD, oMul_int ha.smn hb.smn, oMul_int ha.smd hb.smd]
  rw [← Int.natCast_mul, make_ev _ _ (Nat.mul_ne_zero a.den_nz b.den_nz) hs, ← Rat.mul_def]
  simp! [rD]
theorem less_ev {a b : Rat} (ha : R0 a) (hb : R0 b) (t : Tape) : F_ratios_less [rD a, rD b] t = some (.bl (decide (a < b)), t) := by
  simp! [F_ratios_less, m_ratios_less, rD, oMul_int ha.smn hb.smd, oMul_int hb.smn ha.smd, Rat.lt_iff]
/-! values: fractions, or none -/
def V0 (v : Option Rat) : Prop := ∀ q, v = some q → R0 q
def vless : Option Rat → Option Rat → Bool
  | none, none => false
  | none, some _ => true
  | some _, none => false
  | some a, some b => decide (a < b)
def vmax (a b : Option Rat) : Option Rat := if vless a b then b else a
def vplus : Option Rat → Option Rat → Option Rat
  | some a, some b => some (a + b)
  | _, _ => none
theorem V0.some {q : Rat} (h : R0 q) : V0 (some q) := fun p e => by cases e; exact h
theorem V0.none : V0 none := fun p e => by cases e
theorem V0.of {q : Rat} (h : V0 (Option.some q)) : R0 q := h q rfl
theorem isN_vD (v : Option Rat) : isN (vD v) = v.isNone := by cases v <;> rfl
theorem pln_vD (v : Option Rat) : pln 9 (vD v) = true := by cases v <;> rfl
theorem pln_rD (v : Rat) : pln 9 (rD v) = true := rfl
theorem is_value_ev (v : Option Rat) (t : Tape) : F_values_is_value [vD v] t = some (.bl true, t) := by
  cases v with
  | none => simp! [F_values_is_value, m_values_is_value, vD]
  | some q =>
    have := is_ratio_ev q t
    simp only [rD] at this
    simp! [F_values_is_value, m_values_is_value, vD, rD, this]
theorem is_less_ev {a b : Option Rat} (ha : V0 a) (hb : V0 b) (t : Tape) : F_values_is_less [vD a, vD b] t = some (.bl (vless a b), t) := by
  cases a with
  | none => cases b <;> simp! [F_values_is_less, m_values_is_less, vD, isN_vD, rD, vless]
  | some a =>
    cases b with
    | none => simp! [F_values_is_less, m_values_is_less, vD, rD, vless]
    | some b =>
      have := less_ev ha.of hb.of t
      simp only [rD] at this
      simp! [F_values_is_less, m_values_is_less, vD, rD, vless, this]
theorem greater_ev {a b : Option Rat} (ha : V0 a) (hb : V0 b) (t : Tape) : F_values_greater [vD a, vD b] t = some (vD (vmax a b), t) := by
  simp! [F_values_greater, m_values_greater, is_less_ev ha hb, vmax]
  cases vless a b <;> simp! []
theorem vmax_V0 {a b : Option Rat} (ha : V0 a) (hb : V0 b) : V0 (vmax a b) := by
  unfold vmax; split
  · exact hb
  · exact ha
def vmaxL (x : Option Rat) (l : List (Option Rat)) : Option Rat := l.foldl vmax x
theorem forL_greatest (t : Tape) : ∀ (l : List (Option Rat)) (x : Option Rat) (a : Option D) (c : Option D), V0 x → (∀ v ∈ l, V0 v) → ∃ c', forL (gmName 2) (mSet 1 (mCall 2 0 F_values_greater (mCons (mVar 1) (mCons (mVar 2) mNil)))) (l.map vD) [a, some (vD x), c] t = some (.nx [a, some (vD (vmaxL x l)), c'] t)
  | [], x, a, c, _, _ => ⟨c, rfl⟩
  | v :: l, x, a, c, hx, hl => by
    have hv := hl v List.mem_cons_self
    obtain ⟨c', h⟩ := forL_greatest t l (vmax x v) a (some (vD v)) (vmax_V0 hx hv) fun u hu => hl u (List.mem_cons_of_mem _ hu)
    refine ⟨c', ?_⟩
    simp! [forL, greater_ev hx hv, pln_vD]
    exact h
theorem greatest_ev {l : List (Option Rat)} (hl : ∀ v ∈ l, V0 v) (t : Tape) : F_values_greatest [.tup (l.map vD)] t = some (vD (vmaxL none l), t) := by
  obtain ⟨c', h⟩ := forL_greatest t l none (some (.tup (l.map vD))) none V0.none hl
  simp! [F_values_greatest, m_values_greatest, mFor]
  simp only [vD] at h ⊢
  rw [h]
  simp! []
theorem greatest_evL {l : List (Option Rat)} (hl : ∀ v ∈ l, V0 v) (t : Tape) : F_values_greatest [.lst (l.map vD)] t = some (vD (vmaxL none l), t) := by
  obtain ⟨c', h⟩ := forL_greatest t l none (some (.lst (l.map vD))) none V0.none hl
  simp! [F_values_greatest, m_values_greatest, mFor]
  simp only [vD] at h ⊢
  rw [h]
  simp! []
theorem plus_ev {a b : Option Rat} (ha : V0 a) (hb : V0 b) (t : Tape) : F_values_plus [vD a, vD b] t = some (vD (vplus a b), t) := by
  cases a with
  | none => cases b <;> simp! [F_values_plus, m_values_plus, vD, isN_vD, rD, vplus]
  | some a =>
    cases b with
    | none => simp! [F_values_plus, m_values_plus, vD, rD, vplus]
    | some b =>
      have := add_ev ha.of hb.of t
      simp only [rD] at this
      simp! [F_values_plus, m_values_plus, vD, rD, vplus, this]

def vtimes (v : Option Rat) (n : Int) : Option Rat := if n = 0 then some 0 else v.map (· * (n : Rat))
theorem R0.int {n : Int} (h : n.natAbs < 2 ^ 200) : R0 (n : Rat) := ⟨Nat.lt_of_lt_of_le h (two_pow_le (by decide)), by
  show 1 < _
  exact Nat.one_lt_two_pow (by decide)⟩
theorem times_ev {v : Option Rat} (hv : V0 v) {n : Int} (hn : n.natAbs < 2 ^ 200) (t : Tape) : F_values_times [vD v, .int n] t = some (vD (vtimes v n), t) := by
  by_cases h0 : n = 0
  · subst h0
    simp! [F_values_times, m_values_times, vtimes, d_ratios_ZERO, vD, rD]
    rfl
  · cases v with
    | none => simp! [F_values_times, m_values_times, vtimes, vD, h0]
    | some q =>
      have := multiply_ev hv.of (R0.int hn) t
      have e : rD (n : Rat) = .tup [.int n, .int 1] := rfl
      rw [e] at this
      simp only [rD] at this
      simp! [F_values_times, m_values_times, vtimes, vD, h0, rD, this]
/-! the law's own -/
theorem while_gcd2 (t : Tape) (x y : Option D) : ∀ (n a b : Nat), b < n → whileN (mTst (mOp oGt (mVar 3) (mC (.int 0)))) (mPar2 2 3 (mVar 3) (mOp oMod (mVar 2) (mVar 3))) n [x, y, some (.int a), some (.int b)] t = some (.nx [x, y, some (.int (Nat.gcd a b)), some (.int 0)] t)
  | 0, a, b, h => absurd h (Nat.not_lt_zero _)
  | n + 1, a, b, h => by
    unfold whileN
    by_cases hb : b = 0
    · subst hb
      simp! [Nat.gcd_zero_right]
    · have h0 : (0 : Int) < b := by omega
      simp! [h0, oMod_int h0]
      have := while_gcd2 t x y n b (a % b) (Nat.lt_of_lt_of_le (Nat.mod_lt _ (by omega)) (by omega))
      rw [gcd_go (by omega)] at this
      exact this
theorem law_frac_ev (a : Int) (b : Nat) (hb : b ≠ 0) (hs : Sm (b : Int)) (t : Tape) : F_law_frac [.int a, .int b] t = some (rD (Rat.normalize a b hb), t) := by
  have hb0 : (0 : Int) < b := by omega
  have hg0 : (0 : Int) < ((Nat.gcd a.natAbs b : Nat) : Int) := by
    have := Nat.gcd_pos_of_pos_right a.natAbs (show 0 < b by omega); omega
  have hg1 : Sm ((Nat.gcd a.natAbs b : Nat) : Int) := by
    have h1 := Nat.gcd_le_right a.natAbs (show 0 < b by omega)
    unfold Sm at hs ⊢
    rw [Int.natAbs_natCast] at hs ⊢
    exact Nat.lt_of_le_of_lt h1 hs
  have e1 : (if a < 0 then -a else a) = (a.natAbs : Nat) := by split <;> omega
  have e2 : (if (b : Int) < 0 then -(b : Int) else (b : Int)) = (b : Nat) := by split <;> omega
  simp! [F_law_frac, m_law_frac, e1, e2, mWhile]
  rw [while_gcd2 _ _ _ _ _ _ (by omega)]
  simp! [hb0, oDiv_int hg0 hg1]
  rw [Rat.normalize_eq]
  simp only [rD, Int.natCast_ediv]
theorem law_plus_ev {a b : Option Rat} (ha : V0 a) (hb : V0 b) (t : Tape) : F_law_plus [vD a, vD b] t = some (vD (vplus a b), t) := by
  cases a with
  | none => cases b <;> simp! [F_law_plus, m_law_plus, vD, rD, vplus]
  | some a =>
    cases b with
    | none => simp! [F_law_plus, m_law_plus, vD, rD, vplus]
    | some b =>
      have hs := smd2 ha.of hb.of
      rw [← Int.natCast_mul] at hs
      simp! [F_law_plus, m_law_plus, vD, rD, vplus, oMul_int ha.of.smn hb.of.smd, oMul_int hb.of.smn ha.of.smd, oMul_int ha.of.smd hb.of.smd]
      rw [← Int.natCast_mul, law_frac_ev _ _ (Nat.mul_ne_zero a.den_nz b.den_nz) hs, ← Rat.add_def]
      simp! [rD]
theorem law_below_ev {a b : Option Rat} (ha : V0 a) (hb : V0 b) (t : Tape) : F_law_below [vD a, vD b] t = some (.bl (vless a b), t) := by
  cases a with
  | none => cases b <;> simp! [F_law_below, m_law_below, vD, isN_vD, rD, vless]
  | some a =>
    cases b with
    | none => simp! [F_law_below, m_law_below, vD, rD, vless]
    | some b => simp! [F_law_below, m_law_below, vD, rD, vless, oMul_int ha.of.smn hb.of.smd, oMul_int hb.of.smn ha.of.smd, Rat.lt_iff]
theorem forL_top (t : Tape) : ∀ (l : List (Option Rat)) (x : Option Rat) (a : Option D) (c : Option D), V0 x → (∀ v ∈ l, V0 v) → ∃ c', forL (gmName 2) (mSet 1 (mIfE (mTst (mCall 2 0 F_law_below (mCons (mVar 1) (mCons (mVar 2) mNil)))) (mVar 2) (mVar 1))) (l.map vD) [a, some (vD x), c] t = some (.nx [a, some (vD (vmaxL x l)), c'] t)
  | [], x, a, c, _, _ => ⟨c, rfl⟩
  | v :: l, x, a, c, hx, hl => by
    have hv := hl v List.mem_cons_self
    obtain ⟨c', h⟩ := forL_top t l (vmax x v) a (some (vD v)) (vmax_V0 hx hv) fun u hu => hl u (List.mem_cons_of_mem _ hu)
    refine ⟨c', ?_⟩
    simp! [forL, law_below_ev hx hv]
    refine Eq.trans ?_ h
    unfold vmax
    cases vless x v <;> simp! []
theorem law_top_ev {l : List (Option Rat)} (hl : ∀ v ∈ l, V0 v) (t : Tape) : F_law_top [.tup (l.map vD)] t = some (vD (vmaxL none l), t) := by
  obtain ⟨c', h⟩ := forL_top t l none (some (.tup (l.map vD))) none V0.none hl
  simp! [F_law_top, m_law_top, mFor]
  simp only [vD] at h ⊢
  rw [h]
  simp! []
/-! sums, of a lattice -/
def vsumL (x : Option Rat) (l : List (Option Rat)) : Option Rat := l.foldl vplus x
/-- in the lattice of the d-th parts, at most N -/
theorem mul_den (q : Rat) : q * (q.den : Rat) = q.num := by
  have hd : ((q.den : Nat) : Rat) ≠ 0 := by simpa using q.den_nz
  have e := Rat.mkRat_self q
  rw [Rat.mkRat_eq_div] at e
  have e2 : (q.num : Rat) / (q.den : Rat) * (q.den : Rat) = q.num := Rat.div_mul_cancel hd
  rw [e] at e2
  exact e2
def Bd (d N : Nat) (q : Rat) : Prop := q.den ∣ d ∧ q.num.natAbs ≤ N * q.den
theorem Bd.r0 {d N : Nat} {q : Rat} (h : Bd d N q) (hd : 0 < d) (h2 : d < 2 ^ 200) (h3 : N < 2 ^ 200) : R0 q := by
  have h4 := Nat.le_of_dvd hd h.1
  have h5 : q.den < 2 ^ 200 := Nat.lt_of_le_of_lt h4 h2
  refine ⟨Nat.lt_of_le_of_lt h.2 (Nat.lt_of_lt_of_le (Nat.mul_lt_mul'' h3 h5) ?_), Nat.lt_of_lt_of_le h5 (two_pow_le (by decide))⟩
  rw [← Nat.pow_add]; exact two_pow_le (by decide)
theorem Bd.mono {d N M : Nat} {q : Rat} (h : Bd d N q) (hm : N ≤ M) : Bd d M q := ⟨h.1, Nat.le_trans h.2 (Nat.mul_le_mul_right _ hm)⟩
theorem Bd.abs {d N : Nat} {q : Rat} : q.num.natAbs ≤ N * q.den ↔ (-(N : Rat) ≤ q ∧ q ≤ N) := by
  have e1 : ((N : Nat) : Rat).num = N := rfl
  have e2 : ((N : Nat) : Rat).den = 1 := rfl
  have e3 : (-((N : Nat) : Rat)).num = -N := rfl
  have e4 : (-((N : Nat) : Rat)).den = 1 := rfl
  rw [Rat.le_iff, Rat.le_iff, e1, e2, e3, e4]
  constructor
  · intro h
    constructor
    · have : (N * q.den : Int) = ((N * q.den : Nat) : Int) := by simp
      rw [Int.neg_mul, this]; omega
    · have : (N * q.den : Int) = ((N * q.den : Nat) : Int) := by simp
      rw [this]; omega
  · rintro ⟨h1, h2⟩
    have : (N * q.den : Int) = ((N * q.den : Nat) : Int) := by simp
    rw [Int.neg_mul, this] at h1
    rw [this] at h2
    omega
theorem norm_den_dvd (a : Int) (b : Nat) (h : b ≠ 0) : (Rat.normalize a b h).den ∣ b := by
  rw [Rat.normalize_eq]; exact Nat.div_dvd_of_dvd (Nat.gcd_dvd_right _ _)
/-- a / d -/
theorem den_dvd_iff {d : Nat} (hd : d ≠ 0) {q : Rat} : q.den ∣ d ↔ ∃ z : Int, q * d = z := by
  constructor
  · rintro ⟨k, e⟩
    refine ⟨q.num * k, ?_⟩
    rw [e, Rat.natCast_mul, ← Rat.mul_assoc, mul_den, Rat.intCast_mul]
    rfl
  · rintro ⟨z, e⟩
    have hd' : (d : Rat) ≠ 0 := by simpa using hd
    have : q = mkRat z d := by
      rw [Rat.mkRat_eq_div, ← e, Rat.mul_div_cancel hd']
    rw [this]
    unfold mkRat
    rw [dif_neg hd]
    exact norm_den_dvd z d hd
theorem Bd.add {d N M : Nat} (hd : d ≠ 0) {a b : Rat} (ha : Bd d N a) (hb : Bd d M b) : Bd d (N + M) (a + b) := by
  refine ⟨?_, ?_⟩
  · obtain ⟨x, hx⟩ := (den_dvd_iff hd).mp ha.1
    obtain ⟨y, hy⟩ := (den_dvd_iff hd).mp hb.1
    exact (den_dvd_iff hd).mpr ⟨x + y, by rw [Rat.add_mul, hx, hy, Rat.intCast_add]⟩
  · obtain ⟨h1, h2⟩ := (Bd.abs (d := d)).mp ha.2
    obtain ⟨h3, h4⟩ := (Bd.abs (d := d)).mp hb.2
    refine (Bd.abs (d := d)).mpr ?_
    rw [Rat.natCast_add]
    constructor <;> grind
theorem Bd.neg {d N : Nat} {a : Rat} (ha : Bd d N a) : Bd d N (-a) := by
  refine ⟨by rw [Rat.neg_den]; exact ha.1, ?_⟩
  rw [Rat.neg_num, Rat.neg_den, Int.natAbs_neg]; exact ha.2
theorem Bd.zero {d N : Nat} : Bd d N 0 := ⟨Nat.one_dvd _, Nat.zero_le _⟩
end FL.L
set_option maxRecDepth 100000
set_option maxHeartbeats 400000
noncomputable section
namespace FL
open PySem PySem.Spec PyProof.Rows L2 FL
/-! loops and comprehensions, plainly -/
section
variable {α β : Type} {g : GM} {c : BM} {e : EM} {ρ : Env} {sm : SM}
theorem lcL_filter {t : Tape} (l : List α) (φ ψ : α → D) (p : α → Bool) (h : ∀ a ∈ l, ∃ ρ1, g (φ a) ρ = some ρ1 ∧ c ρ1 t = some (p a, t) ∧ (p a = true → e ρ1 t = some (ψ a, t))) : lcL g c e ρ (l.map φ) t = some ((l.filter p).map ψ, t) := by
  induction l with
  | nil => rfl
  | cons a l ih =>
    obtain ⟨ρ1, h1, h2, h3⟩ := h a List.mem_cons_self
    have ih := ih fun b hb => h b (List.mem_cons_of_mem _ hb)
    simp only [List.map_cons, lcL, h1, Option.bind_some, h2]
    by_cases hp : p a = true
    · rw [if_pos hp, h3 hp, List.filter_cons_of_pos hp]
      simp only [Option.bind_some, ih, Option.map_some, List.map_cons]
    · rw [if_neg hp, List.filter_cons_of_neg hp, ih]
theorem lcL_map {t : Tape} (l : List α) (φ ψ : α → D) (h : ∀ a ∈ l, ∃ ρ1, g (φ a) ρ = some ρ1 ∧ c ρ1 t = some (true, t) ∧ e ρ1 t = some (ψ a, t)) : lcL g c e ρ (l.map φ) t = some (l.map ψ, t) := by
  have := lcL_filter (t := t) (g := g) (c := c) (e := e) (ρ := ρ) l φ ψ (fun _ => true) fun a ha => by
    obtain ⟨ρ1, h1, h2, h3⟩ := h a ha
    exact ⟨ρ1, h1, h2, fun _ => h3⟩
  rw [this]
  congr 3
  exact List.filter_eq_self.mpr fun _ _ => rfl
/-- with draws -/
theorem lcL_draw (l : List α) (φ : α → D) (ψ : β → D) (S : α → β → Prop) (h : ∀ a ∈ l, ∀ t, TOk t → ∃ ρ1 b t', g (φ a) ρ = some ρ1 ∧ c ρ1 t = some (true, t) ∧ e ρ1 t = some (ψ b, t') ∧ TOk t' ∧ S a b) : ∀ t, TOk t → ∃ (bs : List β) (t' : Tape), lcL g c e ρ (l.map φ) t = some (bs.map ψ, t') ∧ TOk t' ∧ bs.length = l.length ∧ ∀ (i : Nat) (a : α) (b : β), l[i]? = some a → bs[i]? = some b → S a b := by
  induction l with
  | nil => exact fun t ht => ⟨[], t, rfl, ht, rfl, fun i a b h => by simp at h⟩
  | cons a l ih =>
    intro t ht
    obtain ⟨ρ1, b, t1, h1, h2, h3, h4, h5⟩ := h a List.mem_cons_self t ht
    obtain ⟨bs, t', k1, k2, k3, k4⟩ := ih (fun b hb => h b (List.mem_cons_of_mem _ hb)) t1 h4
    refine ⟨b :: bs, t', ?_, k2, by simp [k3], fun i x y hx hy => ?_⟩
    · simp only [List.map_cons, lcL, h1, Option.bind_some, h2, if_true, h3, k1, Option.map_some]
    · cases i with
      | zero => simp at hx hy; subst hx; subst hy; exact h5
      | succ i => exact k4 i x y (by simpa using hx) (by simpa using hy)
/-- an invariant through a loop -/
theorem forL_run (P : List D → Env → Tape → Prop) (h : ∀ d ds ρ t, P (d :: ds) ρ t → ∃ ρ1 o, g d ρ = some ρ1 ∧ sm ρ1 t = some o ∧ ∃ ρ' t', (o = .nx ρ' t' ∨ o = .ct ρ' t') ∧ P ds ρ' t') : ∀ ds ρ t, P ds ρ t → ∃ ρ' t', forL g sm ds ρ t = some (.nx ρ' t') ∧ P [] ρ' t'
  | [], ρ, t, p => ⟨ρ, t, rfl, p⟩
  | d :: ds, ρ, t, p => by
    obtain ⟨ρ1, o, h1, h2, ρ', t', h3, h4⟩ := h d ds ρ t p
    obtain ⟨ρ2, t2, k1, k2⟩ := forL_run P h ds ρ' t' h4
    refine ⟨ρ2, t2, ?_, k2⟩
    simp only [forL, h1, Option.bind_some, h2]
    rcases h3 with rfl | rfl <;> exact k1
/-- by the items done -/
theorem forL_at (ds : List D) (P : Nat → Env → Tape → Prop) (h : ∀ i d ρ t, ds[i]? = some d → P i ρ t → ∃ ρ1 o, g d ρ = some ρ1 ∧ sm ρ1 t = some o ∧ ∃ ρ' t', (o = .nx ρ' t' ∨ o = .ct ρ' t') ∧ P (i + 1) ρ' t') {ρ : Env} {t : Tape} (h0 : P 0 ρ t) : ∃ ρ' t', forL g sm ds ρ t = some (.nx ρ' t') ∧ P ds.length ρ' t' := by
  obtain ⟨ρ', t', h1, i, h2, h3⟩ := forL_run (g := g) (sm := sm) (fun r ρ t => ∃ i, ds.drop i = r ∧ i ≤ ds.length ∧ P i ρ t) (fun d r ρ t ⟨i, e, hi, p⟩ => by
    have hlt : i < ds.length := by
      by_cases z : i < ds.length
      · exact z
      · rw [List.drop_eq_nil_of_le (by omega)] at e; cases e
    rw [List.drop_eq_getElem_cons hlt] at e
    injection e with e1 e2
    obtain ⟨ρ1, o, k1, k2, ρ', t', k3, k4⟩ := h i d ρ t (by rw [List.getElem?_eq_getElem hlt, e1]) p
    exact ⟨ρ1, o, k1, k2, ρ', t', k3, i + 1, e2, hlt, k4⟩) ds ρ t ⟨0, rfl, Nat.zero_le _, h0⟩
  refine ⟨ρ', t', h1, ?_⟩
  have : ds.length ≤ i := by simpa using h2
  have e : i = ds.length := by omega
  rw [← e]; exact h3.2
end
theorem mSeq_nx {m1 m2 : SM} {ρ ρ' : Env} {t t' : Tape} (h : m1 ρ t = some (.nx ρ' t')) : mSeq m1 m2 ρ t = m2 ρ' t' := by unfold mSeq; rw [h]; rfl
theorem mSeq_rt {m1 m2 : SM} {ρ : Env} {t t' : Tape} {d : D} (h : m1 ρ t = some (.rt d t')) : mSeq m1 m2 ρ t = some (.rt d t') := by unfold mSeq; rw [h]; rfl
theorem mIf_t {c : BM} {m1 m2 : SM} {ρ : Env} {t t' : Tape} (h : c ρ t = some (true, t')) : mIf c m1 m2 ρ t = m1 ρ t' := by unfold mIf; rw [h]; rfl
theorem mIf_f {c : BM} {m1 m2 : SM} {ρ : Env} {t t' : Tape} (h : c ρ t = some (false, t')) : mIf c m1 m2 ρ t = m2 ρ t' := by unfold mIf; rw [h]; rfl
theorem mSeqIf_f {c : BM} {m1 m2 : SM} {ρ : Env} {t t' : Tape} (h : c ρ t = some (false, t')) : mSeq (mIf c m1 mSkip) m2 ρ t = m2 ρ t' := mSeq_nx (mIf_f h)
theorem mSeqIf_t {c : BM} {m0 m1 m2 : SM} {ρ : Env} {t t' t2 : Tape} {d : D} (h : c ρ t = some (true, t')) (h1 : m1 ρ t' = some (.rt d t2)) : mSeq (mIf c m1 m0) m2 ρ t = some (.rt d t2) := mSeq_rt ((mIf_t h).trans h1)
theorem mRet_of {m : EM} {ρ : Env} {t t' : Tape} {d : D} (h : m ρ t = some (d, t')) : mRet m ρ t = some (.rt d t') := by unfold mRet; rw [h]; rfl
theorem mSet_of {i : Nat} {m : EM} {ρ : Env} {t t' : Tape} {d : D} (h : m ρ t = some (d, t')) : mSet i m ρ t = some (.nx (ρ.set i (some d)) t') := by unfold mSet; rw [h]; rfl
theorem mDrop_of {m : EM} {ρ : Env} {t t' : Tape} {d : D} (h : m ρ t = some (d, t')) : mDrop m ρ t = some (.nx ρ t') := by unfold mDrop; rw [h]; rfl
theorem mFor_of {mi : IM} {g : GM} {sm : SM} {ρ : Env} {t t' : Tape} {ds : List D} (h : mi ρ t = some (ds, t')) : mFor mi g sm ρ t = forL g sm ds ρ t' := by unfold mFor; rw [h]; rfl
theorem fnM_rt {N lv : Nat} {m : SM} {ds : List D} {t t' : Tape} {d : D} (h : m (ds.map some ++ List.replicate (N - ds.length) none) t = some (.rt d t')) : fnM N lv m ds t = some (d, t') := by unfold fnM; rw [h]; rfl
theorem fnM_nx {N : Nat} {m : SM} {ds : List D} {t t' : Tape} {ρ : Env} (h : m (ds.map some ++ List.replicate (N - ds.length) none) t = some (.nx ρ t')) : fnM N 0 m ds t = some (.non, t') := by unfold fnM; rw [h]; rfl
theorem mCall_of {n lv : Nat} {f : FM} {ma : AM} {ρ : Env} {t t1 t' : Tape} {ds : List D} {d : D} (h : ma ρ t = some (ds, t1)) (hl : ds.length = n) (hf : f ds t1 = some (d, t')) (hp : plnL lv d = true) : mCall n lv f ma ρ t = some (d, t') := by
  unfold mCall; rw [h]; simp only [Option.bind_some, hl, if_true, hf, hp]
theorem range1 {n : Nat} (h : n < 2 ^ 62) : dRange1 [.int (n : Int)] = some ((List.range n).map fun (i : Nat) => D.int i) := by
  simp only [dRange1, big_of (i := (n : Int)) (by omega) (by omega), if_true, Int.toNat_natCast]
  congr 2
  funext i
  rw [Int.zero_add]
end FL
namespace FL.L
open PySem PySem.Spec PyProof.Rows L2 FL
/-- plain data of depth below n -/
def okS : Nat → D → Bool
  | 0, _ => false
  | n + 1, .tup l => small l && l.all (okS n)
  | _ + 1, .lst _ => false
  | _ + 1, .tape => false
  | _ + 1, .obj _ _ _ => false
  | _ + 1, .dic _ _ => false
  | _ + 1, .str x => PyData.strOk x
  | _ + 1, _ => true
theorem law_same_tup (R : FM) (l : List D) (t : Tape) (hl : l.length ≤ 100000) (ih : ∀ d ∈ l, R [d, d] t = some (.bl true, t)) : fnM 3 0 (m_law_same R) [.tup l, .tup l] t = some (.bl true, t) := by
  have hr := range1 (n := l.length) (by omega)
  have key : lcL (gmName 2) mYes (mCall 2 0 (R) (mCons (mOp oIx (mVar 0) (mVar 2)) (mCons (mOp oIx (mVar 1) (mVar 2)) mNil))) [some (.tup l), some (.tup l), none] ((List.range l.length).map fun (i : Nat) => D.int i) t = some ((List.range l.length).map fun _ => D.bl true, t) := by
    refine lcL_map _ _ _ fun i hi => ?_
    have hi' : i < l.length := List.mem_range.mp hi
    have hx : oIx (.tup l) (.int i) = some l[i] := oIx_tup (by omega) (by rw [Int.toNat_natCast, List.getElem?_eq_getElem hi'])
    have hs := ih l[i] (List.getElem_mem hi')
    refine ⟨_, rfl, rfl, ?_⟩
    simp! [hx, hs]
  have hb : bls ((List.range l.length).map fun _ => D.bl true) = some ((List.range l.length).map fun _ => true) := by
    have := bls_map ((List.range l.length).map fun _ => true)
    rw [List.map_map] at this
    exact this
  have hsm : small ((List.range l.length).map fun _ => D.bl true) = true := small_of (by simpa using hl)
  have e : oNe (.int l.length) (.int l.length) = some (.bl false) := by rw [oNe_int, decide_eq_true rfl]; rfl
  have c3 : mOr (mNot (mTst (mUn (oIsi "tuple") (mVar 0)))) (mTst (mOp oNe (mCallB gLen (mCons (mVar 0) mNil)) (mCallB gLen (mCons (mVar 1) mNil)))) [some (.tup l), some (.tup l), none] t = some (false, t) := by
    simp only [mOr, mNot, mTst, mUn, mVar, List.getElem?_cons_zero, List.getElem?_cons_succ, Option.bind_some, isi_tuple_tup, Option.map_some, Bool.not_true, Bool.false_eq_true, if_false, mOp, mCallB, mCons, mNil, gLen, e]
  refine fnM_rt ?_
  unfold m_law_same
  refine (mSeqIf_f (t' := t) rfl).trans ?_
  refine (mSeqIf_f (t' := t) (by simp! [])).trans ?_
  refine mSeqIf_t (t' := t) (by simp! []) ?_
  refine (mSeqIf_f c3).trans (mRet_of ?_)
  simp! [mLc, hr, key, hl, gAll, hb]
  simp
theorem law_same_n (n : Nat) : ∀ (d : D) (t : Tape), okS n d = true → F_law_same_n n [d, d] t = some (.bl true, t) := by
  induction n with
  | zero => intro d t h; cases h
  | succ n ih =>
    intro d t h
    cases d with
    | non => simp! [F_law_same_n, m_law_same]
    | bl b =>
      have e : oEq (.bl b) (.bl b) = some (.bl true) := by cases b <;> rfl
      simp! [F_law_same_n, m_law_same, e]
    | int i => simp! [F_law_same_n, m_law_same]
    | str x =>
      have h1 : shp dep (.str x) = true := h
      have e : oEq (.str x) (.str x) = some (.bl true) := by
        unfold oEq
        rw [h1]
        show some (D.bl (x == x)) = _
        simp
      simp! [F_law_same_n, m_law_same, e]
    | tup l =>
      have h' : (small l && l.all (okS n)) = true := h
      rw [Bool.and_eq_true] at h'
      exact law_same_tup _ l t (of_sml h'.1) fun d hd => ih d t (List.all_eq_true.mp h'.2 d hd)
    | lst l => cases h
    | tape => cases h
    | obj c ks l => cases h
    | dic ks l => cases h
theorem law_same_ev {d : D} (h : okS 7 d = true) (t : Tape) : F_law_same [d, d] t = some (.bl true, t) := law_same_n 7 d t h
theorem okS_rD (n : Nat) (q : Rat) : okS (n + 2) (rD q) = true := by
  show (small _ && _) = true
  rw [small_of (by show 2 ≤ 100000; decide)]; rfl
theorem okS_vD (n : Nat) (v : Option Rat) : okS (n + 2) (vD v) = true := by
  cases v with
  | none => rfl
  | some q => exact okS_rD n q
theorem okS_tup {n : Nat} {α : Type} {f : α → D} {l : List α} (hl : l.length ≤ 100000) (h : ∀ a ∈ l, okS n (f a) = true) : okS (n + 1) (.tup (l.map f)) = true := by
  show (small _ && List.all _ _) = true
  rw [small_of (by simpa using hl), Bool.true_and, List.all_eq_true]
  intro d hd
  obtain ⟨a, ha, rfl⟩ := List.mem_map.mp hd
  exact h a ha
end FL.L
set_option maxRecDepth 100000
set_option maxHeartbeats 400000
noncomputable section
namespace FL.L
open PySem PySem.Spec PyProof.Rows L2 FL
/-! the order of values -/
def vle : Option Rat → Option Rat → Prop
  | none, _ => True
  | some _, none => False
  | some a, some b => a ≤ b
theorem vle_refl (a : Option Rat) : vle a a := by
  cases a with
  | none => trivial
  | some a => exact Rat.le_refl
theorem vle_trans {a b c : Option Rat} (h : vle a b) (g : vle b c) : vle a c := by
  cases a with
  | none => trivial
  | some a =>
    cases b with
    | none => exact h.elim
    | some b =>
      cases c with
      | none => exact g.elim
      | some c => exact Rat.le_trans h g
theorem vle_antisymm {a b : Option Rat} (h : vle a b) (g : vle b a) : a = b := by
  cases a with
  | none =>
    cases b with
    | none => rfl
    | some b => exact g.elim
  | some a =>
    cases b with
    | none => exact h.elim
    | some b => rw [Rat.le_antisymm h g]
theorem vless_iff {a b : Option Rat} : vless a b = true ↔ ¬ vle b a := by
  cases a <;> cases b <;> simp [vless, vle, Rat.not_le]
theorem vless_false {a b : Option Rat} : vless a b = false ↔ vle b a := by
  cases a <;> cases b <;> simp [vless, vle, Rat.not_lt]
theorem vle_total (a b : Option Rat) : vle a b ∨ vle b a := by
  cases a with
  | none => exact .inl trivial
  | some a =>
    cases b with
    | none => exact .inr trivial
    | some b => exact Rat.le_total
theorem vle_max1 (a b : Option Rat) : vle a (vmax a b) := by
  unfold vmax
  split
  · rename_i h
    exact (vle_total a b).elim id fun q => absurd q (vless_iff.mp h)
  · exact vle_refl a
theorem vle_max2 (a b : Option Rat) : vle b (vmax a b) := by
  unfold vmax
  split
  · exact vle_refl b
  · rename_i h
    exact vless_false.mp (by simpa using h)
theorem vmax_or (a b : Option Rat) : vmax a b = a ∨ vmax a b = b := by
  unfold vmax; split
  · exact .inr rfl
  · exact .inl rfl
theorem vplus_mono {a b c d : Option Rat} (h : vle a b) (g : vle c d) : vle (vplus a c) (vplus b d) := by
  cases a with
  | none => trivial
  | some a =>
    cases c with
    | none => trivial
    | some c =>
      cases b with
      | none => exact h.elim
      | some b =>
        cases d with
        | none => exact g.elim
        | some d =>
          have h' : a ≤ b := h
          have g' : c ≤ d := g
          show a + c ≤ b + d
          grind
/-- the greatest of the x with S -/
def SupOf (S : Option Rat → Prop) (s : Option Rat) : Prop := (∀ x, S x → vle x s) ∧ (s = none ∨ S s)
theorem SupOf.uniq {S : Option Rat → Prop} {s t : Option Rat} (h : SupOf S s) (g : SupOf S t) : s = t := by
  refine vle_antisymm ?_ ?_
  · rcases h.2 with e | e
    · rw [e]; trivial
    · exact g.1 s e
  · rcases g.2 with e | e
    · rw [e]; trivial
    · exact h.1 t e
theorem SupOf.none {S : Option Rat → Prop} (h : ∀ x, ¬ S x) : SupOf S none := ⟨fun x q => absurd q (h x), .inl rfl⟩
theorem SupOf.max {S T : Option Rat → Prop} {s y : Option Rat} (h : SupOf S s) (hT : ∀ x, T x ↔ S x ∨ x = y) : SupOf T (vmax s y) := by
  refine ⟨fun x hx => ?_, ?_⟩
  · rcases (hT x).mp hx with q | q
    · exact vle_trans (h.1 x q) (vle_max1 s y)
    · rw [q]; exact vle_max2 s y
  · rcases vmax_or s y with e | e
    · rw [e]
      rcases h.2 with q | q
      · exact .inl q
      · exact .inr ((hT _).mpr (.inl q))
    · rw [e]; exact .inr ((hT _).mpr (.inr rfl))
theorem SupOf.congr {S T : Option Rat → Prop} {s : Option Rat} (h : SupOf S s) (hT : ∀ x, T x ↔ S x) : SupOf T s := by
  have : T = S := funext fun x => propext (hT x)
  rw [this]; exact h
theorem SupOf.V0 {S : Option Rat → Prop} {s : Option Rat} (h : SupOf S s) (hS : ∀ x, S x → L.V0 x) : L.V0 s := by
  rcases h.2 with e | e
  · rw [e]; exact V0.none
  · exact hS s e
theorem vmaxL_sup : ∀ (l : List (Option Rat)) (S : Option Rat → Prop) (x : Option Rat), SupOf S x → SupOf (fun y => S y ∨ y ∈ l) (vmaxL x l)
  | [], S, x, h => h.congr fun y => by simp
  | a :: l, S, x, h => by
    have := vmaxL_sup l (fun y => S y ∨ y = a) (vmax x a) (h.max fun y => Iff.rfl)
    refine this.congr fun y => ?_
    simp only [List.mem_cons, or_assoc]
theorem vmaxL_none (l : List (Option Rat)) : SupOf (fun y => y ∈ l) (vmaxL none l) :=
  (vmaxL_sup l (fun _ => False) none (SupOf.none fun _ => id)).congr fun y => by simp
/-! sums -/
def VB (d N : Nat) (v : Option Rat) : Prop := ∀ q, v = some q → Bd d N q
theorem VB.v0 {d N : Nat} {v : Option Rat} (h : VB d N v) (hd : 0 < d) (h2 : d < 2 ^ 200) (h3 : N < 2 ^ 200) : V0 v := fun q e => (h q e).r0 hd h2 h3
theorem VB.some {d N : Nat} {q : Rat} (h : Bd d N q) : VB d N (some q) := fun p e => by cases e; exact h
theorem VB.none {d N : Nat} : VB d N none := fun p e => by cases e
theorem VB.mono {d N M : Nat} {v : Option Rat} (h : VB d N v) (hm : N ≤ M) : VB d M v := fun q e => (h q e).mono hm
theorem VB.plus {d N M : Nat} (hd : d ≠ 0) {a b : Option Rat} (ha : VB d N a) (hb : VB d M b) : VB d (N + M) (vplus a b) := by
  cases a with
  | none => cases b <;> exact VB.none
  | some a =>
    cases b with
    | none => exact VB.none
    | some b => exact VB.some (Bd.add hd (ha a rfl) (hb b rfl))
theorem VB.max {d N : Nat} {a b : Option Rat} (ha : VB d N a) (hb : VB d N b) : VB d N (vmax a b) := by
  rcases vmax_or a b with e | e <;> rw [e]
  · exact ha
  · exact hb
theorem forL_sum {d N : Nat} (hd : 0 < d) (h2 : d < 2 ^ 200) (t : Tape) : ∀ (l : List (Option Rat)) (x : Option Rat) (M : Nat) (a : Option D) (c : Option D), VB d M x → (∀ v ∈ l, VB d N v) → M + l.length * N < 2 ^ 200 → ∃ c', forL (gmName 2) (mSet 1 (mCall 2 0 F_law_plus (mCons (mVar 1) (mCons (mVar 2) mNil)))) (l.map vD) [a, some (vD x), c] t = some (.nx [a, some (vD (vsumL x l)), c'] t)
  | [], x, M, a, c, _, _, _ => ⟨c, rfl⟩
  | v :: l, x, M, a, c, hx, hl, h3 => by
    rw [List.length_cons, Nat.succ_mul] at h3
    have hv := hl v List.mem_cons_self
    obtain ⟨c', h⟩ := forL_sum hd h2 t l (vplus x v) (M + N) a (some (vD v)) (hx.plus (by omega) hv) (fun u hu => hl u (List.mem_cons_of_mem _ hu)) (by omega)
    refine ⟨c', ?_⟩
    simp! [forL, law_plus_ev (hx.v0 hd h2 (by omega)) (hv.v0 hd h2 (by omega)), pln_vD]
    exact h
theorem law_sum_ev {d N : Nat} (hd : 0 < d) (h2 : d < 2 ^ 200) {l : List (Option Rat)} (hl : ∀ v ∈ l, VB d N v) (h3 : l.length * N < 2 ^ 200) (t : Tape) : F_law_sum [.lst (l.map vD)] t = some (vD (vsumL (some 0) l), t) := by
  obtain ⟨c', h⟩ := forL_sum hd h2 t l (some 0) 0 (some (.lst (l.map vD))) none (VB.some Bd.zero) hl (by omega)
  have e : vD (some 0) = .tup [.int 0, .int 1] := rfl
  rw [e] at h
  simp! [F_law_sum, m_law_sum, mFor, h]
theorem vsumL_some (l : List Rat) : ∀ x : Rat, vsumL (some x) (l.map some) = some (l.foldl (· + ·) x) := by
  induction l with
  | nil => intro x; rfl
  | cons a l ih => intro x; exact ih (x + a)
/-! draws -/
theorem law_pick_ev {l : List D} (t : Tape) (ht : TOk t) (h0 : l ≠ []) (hl : l.length ≤ 100000) (hp : ∀ d ∈ l, pln 9 d = true) : ∃ d t', F_law_pick [.tape, .lst l] t = some (d, t') ∧ d ∈ l ∧ TOk t' := by
  have hpos : 0 < l.length := List.length_pos_iff.mpr h0
  obtain ⟨i, t', h1, h2, h3, h4⟩ := draw_ev (m := l.length) ht (by omega) (by omega)
  have hi : i.toNat < l.length := by omega
  have hx : oIx (.lst l) (.int i) = some l[i.toNat] := oIx_lst h2 (List.getElem?_eq_getElem hi)
  exact ⟨l[i.toNat], t', by simp! [F_law_pick, m_law_pick, h1, hx], List.getElem_mem hi, h4⟩
theorem law_number_ev (t : Tape) (ht : TOk t) : ∃ q t', F_law_number [.tape] t = some (rD q, t') ∧ Bd 6 6 q ∧ TOk t' := by
  obtain ⟨i, t1, h1, h2, h3, h4⟩ := draw_ev (m := 13) ht (by decide) (by decide)
  obtain ⟨d, t2, k1, k2, k3⟩ := law_pick_ev (l := [.int 1, .int 1, .int 2, .int 3]) t1 h4 (by simp) (by decide) (by decide)
  have hd : ∃ b : Nat, d = .int b ∧ (b = 1 ∨ b = 2 ∨ b = 3) := by
    simp only [List.mem_cons, List.mem_nil_iff, or_false] at k2
    rcases k2 with e | e | e | e
    · exact ⟨1, e, .inl rfl⟩
    · exact ⟨1, e, .inl rfl⟩
    · exact ⟨2, e, .inr (.inl rfl)⟩
    · exact ⟨3, e, .inr (.inr rfl)⟩
  obtain ⟨b, rfl, hb⟩ := hd
  have hb0 : b ≠ 0 := by omega
  have hf := law_frac_ev (i - 6) b hb0 (Sm.of (by rw [Int.natAbs_natCast]; omega)) t2
  refine ⟨Rat.normalize (i - 6) b hb0, t2, ?_, ⟨?_, ?_⟩, k3⟩
  · simp! [F_law_number, m_law_number, h1, k1, hf, pln_rD]
  · refine Nat.dvd_trans (norm_den_dvd _ _ _) ?_
    rcases hb with rfl | rfl | rfl <;> decide
  · rw [Rat.normalize_eq]
    show ((i - 6) / _).natAbs ≤ 6 * (b / _)
    generalize hg : Nat.gcd (i - 6).natAbs b = g
    have hgb : g ∣ b := by rw [← hg]; exact Nat.gcd_dvd_right _ _
    have hga : (g : Int) ∣ (i - 6) := by rw [← hg]; exact Int.ofNat_dvd_left.mpr (Nat.gcd_dvd_left _ _)
    obtain ⟨u, hu⟩ := hga
    obtain ⟨w, hw⟩ := hgb
    have hg0 : 0 < g := by
      rcases Nat.eq_zero_or_pos g with z | z
      · rw [z, Nat.zero_mul] at hw; exact absurd hw hb0
      · exact z
    rw [hu, hw, Int.mul_ediv_cancel_left _ (by omega), Nat.mul_div_cancel_left _ hg0]
    have h5 : (i - 6).natAbs ≤ 6 := by omega
    rw [hu, Int.natAbs_mul, Int.natAbs_natCast] at h5
    have hw0 : 0 < w := by
      rcases Nat.eq_zero_or_pos w with z | z
      · rw [z, Nat.mul_zero] at hw; exact absurd hw hb0
      · exact z
    have : u.natAbs ≤ g * u.natAbs := Nat.le_mul_of_pos_left _ hg0
    omega
theorem map_range_set {α : Type} (φ : Nat → α) (n q : Nat) (x : α) : ((List.range n).map φ).set q x = (List.range n).map fun p => if p = q then x else φ p := by
  refine List.ext_getElem? fun i => ?_
  by_cases hi : i < n
  · by_cases e : q = i
    · subst e
      rw [List.getElem?_set_self (by simpa using hi), List.getElem?_map, List.getElem?_range hi]
      simp
    · rw [List.getElem?_set_ne e, List.getElem?_map, List.getElem?_map, List.getElem?_range hi]
      simp [Ne.symm e]
  · rw [List.getElem?_eq_none (by simpa using hi), List.getElem?_eq_none (by simpa using hi)]
theorem range_at {α : Type} (φ : Nat → α) {n q : Nat} (h : q < n) : ((List.range n).map φ)[q]? = some (φ q) := by
  rw [List.getElem?_map, List.getElem?_range h]; rfl
theorem dZip_map {α : Type} (f g : α → D) : ∀ l : List α, dZip (l.map f) (l.map g) = l.map fun a => .tup [f a, g a]
  | [] => rfl
  | a :: l => by simp only [List.map_cons, dZip, dZip_map f g l]
theorem take_succ {α : Type} {l : List α} {i : Nat} {a : α} (h : l[i]? = some a) : l.take (i + 1) = l.take i ++ [a] := by
  obtain ⟨hi, rfl⟩ := List.getElem?_eq_some_iff.mp h
  exact List.take_succ_eq_append_getElem hi
theorem cut_take {α : Type} (l : List α) (k : Nat) : cutL l none (some (k : Int)) = l.take k := by
  unfold cutL
  rw [HT.sIx_none, HT.sIx_nat, List.drop_zero, Nat.sub_zero, ← List.take_eq_take_min]
theorem deq_rD (a b : Rat) : deq 9 (rD a) (rD b) = decide (a = b) := by
  show (a.num == b.num && ((a.den : Int) == (b.den : Int) && true)) = _
  rw [Bool.and_true]
  by_cases h : a = b
  · subst h; simp
  · rw [decide_eq_false h]
    by_cases h1 : a.num = b.num
    · have h2 : a.den ≠ b.den := fun z => h (Rat.ext h1 z)
      have h3 : (a.den : Int) ≠ b.den := fun z => h2 (Int.ofNat.inj z)
      simp [h1, h3]
    · simp [h1]
theorem oNe_rD (a b : Rat) : oNe (rD a) (rD b) = some (.bl (!decide (a = b))) := by
  show some (D.bl (!deq 9 (rD a) (rD b))) = _
  rw [deq_rD]
theorem oEq_rD (a b : Rat) : oEq (rD a) (rD b) = some (.bl (decide (a = b))) := by
  show some (D.bl (deq 9 (rD a) (rD b))) = _
  rw [deq_rD]
end FL.L
set_option maxRecDepth 100000
set_option maxHeartbeats 400000
noncomputable section
namespace FL.L
open PySem PySem.Spec PyProof.Rows L2 FL
theorem shp_rD (n : Nat) (q : Rat) : shp (n + 2) (rD q) = true := rfl
theorem shp_vD (n : Nat) (v : Option Rat) : shp (n + 2) (vD v) = true := by cases v <;> rfl
theorem shp_tup {n : Nat} {α : Type} {f : α → D} {l : List α} (h : ∀ a ∈ l, shp n (f a) = true) : shp (n + 1) (.tup (l.map f)) = true := by
  show List.all _ _ = true
  rw [List.all_eq_true]
  intro d hd
  obtain ⟨a, ha, rfl⟩ := List.mem_map.mp hd
  exact h a ha
theorem pln_tup {n : Nat} {α : Type} {f : α → D} {l : List α} (h : ∀ a ∈ l, pln n (f a) = true) : pln (n + 1) (.tup (l.map f)) = true := by
  show List.all _ _ = true
  rw [List.all_eq_true]
  intro d hd
  obtain ⟨a, ha, rfl⟩ := List.mem_map.mp hd
  exact h a ha
theorem pln_vD' (n : Nat) (v : Option Rat) : pln (n + 2) (vD v) = true := by cases v <;> rfl
theorem oEq_nil (l : List D) (h : shp 9 (.tup l) = true) : oEq (.tup l) (.tup []) = some (.bl l.isEmpty) := by
  unfold oEq
  rw [h]
  cases l <;> rfl
theorem atI_neg1 {α : Type} (l : List α) (h : l ≠ []) : atI l (-1) = l.getLast? := by
  obtain ⟨r, x, e⟩ : ∃ r x, l = r ++ [x] := ⟨l.dropLast, l.getLast h, (List.dropLast_concat_getLast h).symm⟩
  rw [e, atI_last, List.getLast?_concat]
theorem all_true_ev (n : Nat) : bls ((List.replicate n (D.bl true))) = some (List.replicate n true) := by
  have := bls_map (List.replicate n true)
  rwa [List.map_replicate] at this
theorem bls_map_true {α : Type} (l : List α) : bls (l.map fun _ => D.bl true) = some (l.map fun _ => true) := by
  have := bls_map (l.map fun _ => true)
  rwa [List.map_map] at this
theorem all_const_true {α : Type} (l : List α) : (l.map fun _ => true).all id = true := by simp
theorem is_poly_ev (l : List (Option Rat)) (t : Tape) (hl : l.length ≤ 31) (hlast : l ≠ [] → ∃ q, l.getLast? = some (some q)) : F_polys_is_poly [.tup (l.map vD)] t = some (.bl true, t) := by
  have key : lcL (gmName 1) mYes (mCall 1 0 F_values_is_value (mCons (mVar 1) mNil)) [some (.tup (l.map vD)), none] (l.map vD) t = some (l.map fun _ => D.bl true, t) := by
    refine lcL_map _ _ _ fun v hv => ⟨_, rfl, rfl, ?_⟩
    simp! [is_value_ev]
  have hgt : decide ((31 : Int) < (l.length : Int)) = false := decide_eq_false (by omega)
  have hl2 : l.length ≤ 100000 := by omega
  have hsh : shp 9 (.tup (l.map vD)) = true := shp_tup (n := 8) fun a _ => shp_vD 6 a
  have c1 : mOr (mNot (mTst (mUn (oIsi "tuple") (mVar 0)))) (mOr (mTst (mOp oGt (mCallB gLen (mCons (mVar 0) mNil)) (mOp oAdd (mC d_polys_MOST_DEGREE) (mC (.int 1))))) (mNot (mTst (mCallB gAll (mCons (mLc (mIt (mVar 0)) (gmName 1) mYes (mCall 1 0 F_values_is_value (mCons (mVar 1) mNil)) [1]) mNil))))) [some (.tup (l.map vD)), none] t = some (false, t) := by
    simp! [d_polys_MOST_DEGREE, hgt, mLc, key, hl2, gAll, bls_map_true, all_const_true]
  refine fnM_rt ?_
  unfold m_polys_is_poly
  refine (mSeqIf_f c1).trans (mRet_of ?_)
  by_cases h0 : l = []
  · subst h0
    have e : oEq (.tup []) (.tup []) = some (.bl true) := oEq_nil [] rfl
    simp! [e]
  · obtain ⟨q, hq⟩ := hlast h0
    have hx : oIx (.tup (l.map vD)) (.int (-1)) = some (vD (some q)) := by
      show atI _ _ = _
      rw [atI_neg1 _ (by simpa using h0), List.getLast?_map, hq]; rfl
    have he : (l.map vD).isEmpty = false := by cases l <;> simp_all
    simp! [oEq_nil _ hsh, he, hx, vD, rD]
theorem check_poly_ev (l : List (Option Rat)) (t : Tape) (hl : l.length ≤ 31) (hlast : l ≠ [] → ∃ q, l.getLast? = some (some q)) : F_polys_check_poly [.tup (l.map vD)] t = some (.non, t) := by
  simp! [F_polys_check_poly, m_polys_check_poly, is_poly_ev l t hl hlast]
/-- the coefficient n of the product of as and bs, by the pairs with P -/
def PairS (as bs : List (Option Rat)) (P : Nat → Nat → Prop) (n : Nat) (x : Option Rat) : Prop := ∃ k j a b, P k j ∧ k + j = n ∧ as[k]? = some a ∧ bs[j]? = some b ∧ x = vplus a b
/-- it is the product's coefficients -/
def IsProd (as bs cs : List (Option Rat)) : Prop := cs.length = as.length + bs.length - 1 ∧ ∀ n c, cs[n]? = some c → SupOf (PairS as bs (fun _ _ => True) n) c

theorem enum_at {l : List (Option Rat)} {i : Nat} {d : D} (h : (dEnum 0 (l.map vD))[i]? = some d) : ∃ a, l[i]? = some a ∧ d = .tup [.int i, vD a] := by
  obtain ⟨x, h1, h2⟩ := dEnum_get _ _ _ _ h
  rw [List.getElem?_map] at h1
  cases e : l[i]? with
  | none => rw [e] at h1; cases h1
  | some a =>
    rw [e] at h1
    cases h1
    exact ⟨a, rfl, by rw [h2, Nat.zero_add]⟩
theorem product_ev (as bs : List (Option Rat)) (t : Tape) (ha0 : as ≠ []) (hb0 : bs ≠ []) (hla : as.length ≤ 31) (hlb : bs.length ≤ 31) (hl : as.length + bs.length ≤ 32) (hlasta : ∃ q, as.getLast? = some (some q)) (hlastb : ∃ q, bs.getLast? = some (some q))
    (hva : ∀ a ∈ as, V0 a) (hvb : ∀ b ∈ bs, V0 b) (hvp : ∀ a ∈ as, ∀ b ∈ bs, V0 (vplus a b)) : ∃ cs, F_polys_product [.tup (as.map vD), .tup (bs.map vD)] t = some (.tup (cs.map vD), t) ∧ IsProd as bs cs := by
  have hpa : 0 < as.length := List.length_pos_iff.mpr ha0
  have hpb : 0 < bs.length := List.length_pos_iff.mpr hb0
  have hsa : shp 9 (.tup (as.map vD)) = true := shp_tup (n := 8) fun a _ => shp_vD 6 a
  have hsb : shp 9 (.tup (bs.map vD)) = true := shp_tup (n := 8) fun a _ => shp_vD 6 a
  have hea : (as.map vD).isEmpty = false := by cases as <;> simp_all
  have heb : (bs.map vD).isEmpty = false := by cases bs <;> simp_all
  have hc1 := check_poly_ev as t hla fun _ => hlasta
  have hc2 := check_poly_ev bs t hlb fun _ => hlastb
  have hA : some (D.tup (as.map vD)) = some (D.tup (as.map vD)) := rfl
  have hgt : decide ((30 : Int) < (as.length : Int) + bs.length - 2) = false := decide_eq_false (by omega)
  have hr1 : rep1 ((as.length : Int) + bs.length - 1) [D.non] = true := rep1_of (by omega) (by omega) (by decide)
  have hrl : repL ((as.length : Int) + bs.length - 1) [D.non] = (List.replicate (as.length + bs.length - 1) (none : Option Rat)).map vD := by
    unfold repL
    rw [show ((as.length : Int) + bs.length - 1).toNat = as.length + bs.length - 1 by omega, List.map_replicate]
    generalize as.length + bs.length - 1 = n
    induction n with
    | zero => rfl
    | succ n ih => rw [List.replicate_succ, List.flatten_cons, ih]; rfl
  let A := some (D.tup (as.map vD)); let B := some (D.tup (bs.map vD))
  -- the inner loop
  have inner : ∀ (i : Nat) (a : Option Rat), as[i]? = some a → ∀ F : List (Option Rat), F.length = as.length + bs.length - 1 → (∀ n c, F[n]? = some c → SupOf (PairS as bs (fun k _ => k < i) n) c) → ∀ x5 x6 : Option D,
      ∃ (F' : List (Option Rat)) (y5 y6 : Option D), forL (gmTup 2 (gmCons (gmName 5) (gmCons (gmName 6) gmNil))) (mSetI 2 (mOp oAdd (mVar 3) (mVar 5)) (mCall 2 0 F_values_greater (mCons (mOp oIx (mVar 2) (mOp oAdd (mVar 3) (mVar 5))) (mCons (mCall 2 0 F_values_plus (mCons (mVar 4) (mCons (mVar 6) mNil))) mNil)))) (dEnum 0 (bs.map vD)) [A, B, some (.lst (F.map vD)), some (.int i), some (vD a), x5, x6] t = some (.nx [A, B, some (.lst (F'.map vD)), some (.int i), some (vD a), y5, y6] t) ∧
        F'.length = as.length + bs.length - 1 ∧ (∀ n c, F'[n]? = some c → SupOf (PairS as bs (fun k _ => k < i + 1) n) c) := by
    intro i a hia F hFl hF x5 x6
    have hi : i < as.length := (List.getElem?_eq_some_iff.mp hia).1
    have ham : a ∈ as := List.mem_of_getElem? hia
    obtain ⟨ρ', t', h1, h2⟩ := forL_at (g := gmTup 2 (gmCons (gmName 5) (gmCons (gmName 6) gmNil))) (sm := mSetI 2 (mOp oAdd (mVar 3) (mVar 5)) (mCall 2 0 F_values_greater (mCons (mOp oIx (mVar 2) (mOp oAdd (mVar 3) (mVar 5))) (mCons (mCall 2 0 F_values_plus (mCons (mVar 4) (mCons (mVar 6) mNil))) mNil)))) (dEnum 0 (bs.map vD))
      (fun m ρ t' => t' = t ∧ ∃ (F : List (Option Rat)) (y5 y6 : Option D), ρ = [A, B, some (.lst (F.map vD)), some (.int i), some (vD a), y5, y6] ∧ F.length = as.length + bs.length - 1 ∧ ∀ n c, F[n]? = some c → SupOf (PairS as bs (fun k j => k < i ∨ (k = i ∧ j < m)) n) c)
      (fun m d ρ t' hd ⟨ht, F, y5, y6, hρ, hFl, hF⟩ => by
        subst ht hρ
        obtain ⟨b, hb, rfl⟩ := enum_at hd
        have hm : m < bs.length := (List.getElem?_eq_some_iff.mp hb).1
        have hbm : b ∈ bs := List.mem_of_getElem? hb
        have hn : i + m < F.length := by omega
        have hv0 : V0 F[i + m] := (hF _ _ (List.getElem?_eq_getElem hn)).V0 fun x ⟨k, j, p, q, _, _, e1, e2, e3⟩ => by
          rw [e3]; exact hvp p (List.mem_of_getElem? e1) q (List.mem_of_getElem? e2)
        have hx : oIx (.lst (F.map vD)) (.int ((i : Int) + m)) = some (vD F[i + m]) := oIx_lst (by omega) (by
          rw [show ((i : Int) + m).toNat = i + m by omega, List.getElem?_map, List.getElem?_eq_getElem hn]; rfl)
        have hix : ixN F.length ((i : Int) + m) = some (i + m) := by
          rw [ixN_of (by omega) (by omega)]; congr 1
        refine ⟨_, _, rfl, ?_, [A, B, some (.lst ((F.set (i + m) (vmax F[i + m] (vplus a b))).map vD)), some (.int i), some (vD a), some (.int m), some (vD b)], t', .inl rfl, rfl, _, _, _, rfl, by rw [List.length_set]; exact hFl, fun n c hc => ?_⟩
        · simp! [mSetI, hx, plus_ev (hva a ham) (hvb b hbm), pln_vD, greater_ev hv0 (hvp a ham b hbm), hix, List.map_set]
        · by_cases e : n = i + m
          · subst e
            rw [List.getElem?_set_self hn] at hc
            cases hc
            refine (hF _ _ (List.getElem?_eq_getElem hn)).max fun x => ⟨?_, ?_⟩
            · rintro ⟨k, j, p, q, hP, h2, h3, h4, h5⟩
              rcases hP with hP | ⟨hP1, hP2⟩
              · exact .inl ⟨k, j, p, q, .inl hP, h2, h3, h4, h5⟩
              · subst hP1
                by_cases e2 : j = m
                · subst e2
                  rw [hia] at h3; rw [hb] at h4
                  cases h3; cases h4
                  exact .inr h5
                · exact .inl ⟨k, j, p, q, .inr ⟨rfl, by omega⟩, h2, h3, h4, h5⟩
            · rintro (⟨k, j, p, q, hP, h2, h3, h4, h5⟩ | e)
              · refine ⟨k, j, p, q, ?_, h2, h3, h4, h5⟩
                rcases hP with hP | ⟨hP1, hP2⟩
                · exact .inl hP
                · exact .inr ⟨hP1, by omega⟩
              · exact ⟨i, m, a, b, .inr ⟨rfl, by omega⟩, rfl, hia, hb, e⟩
          · rw [List.getElem?_set_ne (Ne.symm e)] at hc
            refine (hF _ _ hc).congr fun x => ⟨?_, ?_⟩
            · rintro ⟨k, j, p, q, hP, h2, h3, h4, h5⟩
              refine ⟨k, j, p, q, ?_, h2, h3, h4, h5⟩
              rcases hP with hP | ⟨hP1, hP2⟩
              · exact .inl hP
              · exact .inr ⟨hP1, by omega⟩
            · rintro ⟨k, j, p, q, hP, h2, h3, h4, h5⟩
              refine ⟨k, j, p, q, ?_, h2, h3, h4, h5⟩
              rcases hP with hP | ⟨hP1, hP2⟩
              · exact .inl hP
              · exact .inr ⟨hP1, by omega⟩)
      (ρ := [A, B, some (.lst (F.map vD)), some (.int i), some (vD a), x5, x6]) (t := t) ⟨rfl, F, x5, x6, rfl, hFl, fun n c hc => (hF n c hc).congr fun x => ⟨fun ⟨k, j, p, q, hP, r⟩ => ⟨k, j, p, q, by omega, r⟩, fun ⟨k, j, p, q, hP, r⟩ => ⟨k, j, p, q, .inl hP, r⟩⟩⟩
    obtain ⟨ht, F', y5, y6, hρ, h3, h4⟩ := h2
    subst ht hρ
    refine ⟨F', y5, y6, h1, h3, fun n c hc => (h4 n c hc).congr fun x => ⟨?_, ?_⟩⟩
    · rintro ⟨k, j, p, q, hP, h5, h6, h7, h8⟩
      refine ⟨k, j, p, q, ?_, h5, h6, h7, h8⟩
      by_cases e : k < i
      · exact .inl e
      · refine .inr ⟨by omega, ?_⟩
        rw [dEnum_len, List.length_map]
        exact (List.getElem?_eq_some_iff.mp h7).1
    · rintro ⟨k, j, p, q, hP, r⟩
      exact ⟨k, j, p, q, by omega, r⟩
  -- the outer loop
  obtain ⟨ρ', t', h1, h2⟩ := forL_at (g := gmTup 2 (gmCons (gmName 3) (gmCons (gmName 4) gmNil))) (sm := mFor (mIter dEnumA (mCons (mVar 1) mNil)) (gmTup 2 (gmCons (gmName 5) (gmCons (gmName 6) gmNil))) (mSetI 2 (mOp oAdd (mVar 3) (mVar 5)) (mCall 2 0 F_values_greater (mCons (mOp oIx (mVar 2) (mOp oAdd (mVar 3) (mVar 5))) (mCons (mCall 2 0 F_values_plus (mCons (mVar 4) (mCons (mVar 6) mNil))) mNil))))) (dEnum 0 (as.map vD))
    (fun i ρ t' => t' = t ∧ ∃ (F : List (Option Rat)) (y3 y4 y5 y6 : Option D), ρ = [A, B, some (.lst (F.map vD)), y3, y4, y5, y6] ∧ F.length = as.length + bs.length - 1 ∧ ∀ n c, F[n]? = some c → SupOf (PairS as bs (fun k _ => k < i) n) c)
    (fun i d ρ t' hd ⟨ht, F, y3, y4, y5, y6, hρ, hFl, hF⟩ => by
      subst ht hρ
      obtain ⟨a, hia, rfl⟩ := enum_at hd
      obtain ⟨F', z5, z6, k1, k2, k3⟩ := inner i a hia F hFl hF y5 y6
      refine ⟨_, _, rfl, (mFor_of (ds := dEnum 0 (bs.map vD)) (t' := t') rfl).trans k1, _, _, .inl rfl, rfl, F', _, _, _, _, rfl, k2, k3⟩)
    (ρ := [A, B, some (.lst ((List.replicate (as.length + bs.length - 1) none).map vD)), none, none, none, none]) (t := t) ⟨rfl, _, _, _, _, _, rfl, by simp, fun n c hc => by
      rw [List.getElem?_replicate] at hc
      split at hc
      · cases hc; exact SupOf.none fun x ⟨k, j, p, q, hP, _⟩ => absurd hP (Nat.not_lt_zero _)
      · cases hc⟩
  obtain ⟨ht, F', y3, y4, y5, y6, hρ, h3, h4⟩ := h2
  subst ht hρ
  refine ⟨F', ?_, h3, fun n c hc => (h4 n c hc).congr fun x => ⟨?_, ?_⟩⟩
  · refine fnM_rt ?_
    unfold m_polys_product
    have d1 : mDrop (mCall 1 0 F_polys_check_poly (mCons (mVar 0) mNil)) [A, B, none, none, none, none, none] t' = some (.nx [A, B, none, none, none, none, none] t') := by simp! [A, hc1]
    have d2 : mDrop (mCall 1 0 F_polys_check_poly (mCons (mVar 1) mNil)) [A, B, none, none, none, none, none] t' = some (.nx [A, B, none, none, none, none, none] t') := by simp! [A, B, hc2]
    have c1 : mOr (mTst (mOp oEq (mVar 0) (mTup mNil))) (mTst (mOp oEq (mVar 1) (mTup mNil))) [A, B, none, none, none, none, none] t' = some (false, t') := by simp! [A, B, oEq_nil _ hsa, oEq_nil _ hsb, hea, heb]
    have c2 : mTst (mOp oGt (mOp oSub (mOp oAdd (mCallB gLen (mCons (mVar 0) mNil)) (mCallB gLen (mCons (mVar 1) mNil))) (mC (.int 2))) (mC d_polys_MOST_DEGREE)) [A, B, none, none, none, none, none] t' = some (false, t') := by simp! [A, B, d_polys_MOST_DEGREE, hgt]
    refine (mSeq_nx d1).trans ((mSeq_nx d2).trans ((mSeqIf_f c1).trans ((mSeqIf_f c2).trans ?_)))
    refine (mSeq_nx (mSet_of (d := .lst ((List.replicate (as.length + bs.length - 1) (none : Option Rat)).map vD)) (t' := t') ?_)).trans ?_
    · simp! [A, B, oRep, hr1, hrl]
    refine (mSeq_nx ((mFor_of (ds := dEnum 0 (as.map vD)) (t' := t') rfl).trans h1)).trans (mRet_of ?_)
    simp! []
  · rintro ⟨k, j, p, q, hP, h5, h6, h7⟩
    exact ⟨k, j, p, q, by rw [dEnum_len, List.length_map]; exact (List.getElem?_eq_some_iff.mp h6).1, h5, h6, h7⟩
  · rintro ⟨k, j, p, q, hP, r⟩
    exact ⟨k, j, p, q, trivial, r⟩

theorem dEnum_zip {α : Type} (f : α → D) : ∀ (l : List α) (n : Nat), dEnum n (l.map f) = (l.zipIdx n).map fun p => .tup [.int p.2, f p.1]
  | [], _ => rfl
  | a :: l, n => by
    simp only [List.map_cons, dEnum, List.zipIdx_cons, dEnum_zip f l (n + 1)]
/-- the value at p -/
def pvals (l : List (Option Rat)) (p : Option Rat) : List (Option Rat) := l.zipIdx.map fun a => vplus a.1 (vtimes p a.2)
theorem value_ev (l : List (Option Rat)) (p : Option Rat) (t : Tape) (hl : l.length ≤ 31) (hlast : l ≠ [] → ∃ q, l.getLast? = some (some q)) (hp : V0 p) (h1 : ∀ (k : Nat) (a : Option Rat), l[k]? = some a → V0 a ∧ V0 (vtimes p k) ∧ V0 (vplus a (vtimes p k))) :
    F_polys_value [.tup (l.map vD), vD p] t = some (vD (vmaxL none (pvals l p)), t) := by
  have hc := check_poly_ev l t hl hlast
  have key : ∀ x y : Option D, lcL (gmTup 2 (gmCons (gmName 2) (gmCons (gmName 3) gmNil))) mYes (mCall 2 0 F_values_plus (mCons (mVar 3) (mCons (mCall 2 0 F_values_times (mCons (mVar 1) (mCons (mVar 2) mNil))) mNil))) [some (.tup (l.map vD)), some (vD p), x, y] (dEnum 0 (l.map vD)) t = some ((pvals l p).map vD, t) := fun x y => by
    rw [dEnum_zip]
    unfold pvals
    rw [List.map_map]
    refine lcL_map _ _ _ fun a ha => ⟨_, rfl, rfl, ?_⟩
    obtain ⟨a, k⟩ := a
    have hk := List.mem_zipIdx_iff_getElem?.mp ha
    obtain ⟨g1, g2, g3⟩ := h1 k a hk
    have hkl : k < l.length := (List.getElem?_eq_some_iff.mp hk).1
    have ht := times_ev hp (n := (k : Int)) (by omega) t
    simp! [ht, pln_vD, plus_ev g1 g2]
    rfl
  have hg := greatest_evL (l := pvals l p) (fun v hv => by
    unfold pvals at hv
    obtain ⟨⟨a, k⟩, ha, rfl⟩ := List.mem_map.mp hv
    exact (h1 k a (List.mem_zipIdx_iff_getElem?.mp ha)).2.2) t
  have hpl : (pvals l p).length ≤ 100000 := by unfold pvals; simp; omega
  simp! [F_polys_value, m_polys_value, hc, mLc, dEnumA, key, hpl, hg, pln_vD]
end FL.L
set_option maxRecDepth 100000
set_option maxHeartbeats 400000
noncomputable section
namespace FL.L
open PySem PySem.Spec PyProof.Rows L2 FL
/-! tables as functions of two places -/
def rowD (m : Nat) (f : Nat → Option Rat) : D := .tup ((List.range m).map fun j => vD (f j))
def tabD (n m : Nat) (f : Nat → Nat → Option Rat) : D := .tup ((List.range n).map fun i => rowD m (f i))
theorem shp_row (k m : Nat) (f : Nat → Option Rat) : shp (k + 3) (rowD m f) = true := shp_tup fun j _ => shp_vD k _
theorem shp_tab (k n m : Nat) (f : Nat → Nat → Option Rat) : shp (k + 4) (tabD n m f) = true := shp_tup fun j _ => shp_row k _ _
theorem pln_row (k m : Nat) (f : Nat → Option Rat) : pln (k + 3) (rowD m f) = true := pln_tup fun j _ => pln_vD' k _
theorem pln_tab (k n m : Nat) (f : Nat → Nat → Option Rat) : pln (k + 4) (tabD n m f) = true := pln_tup fun j _ => pln_row k _ _
theorem okS_row (k m : Nat) (f : Nat → Option Rat) (hm : m ≤ 100000) : okS (k + 3) (rowD m f) = true := okS_tup (by simpa using hm) fun j _ => okS_vD k _
theorem okS_tab (k n m : Nat) (f : Nat → Nat → Option Rat) (hn : n ≤ 100000) (hm : m ≤ 100000) : okS (k + 4) (tabD n m f) = true := okS_tup (by simpa using hn) fun j _ => okS_row k _ _ hm
theorem pln_rowA (m : Nat) (f : Nat → Option Rat) : ((List.range m).map fun j => vD (f j)).all (pln 8) = true := pln_row 6 m f
theorem pln_tabA (n m : Nat) (f : Nat → Nat → Option Rat) : ((List.range n).map fun i => rowD m (f i)).all (pln 8) = true := pln_tab 5 n m f
theorem ix_row {m : Nat} (f : Nat → Option Rat) {j : Nat} (h : j < m) : oIx (rowD m f) (.int j) = some (vD (f j)) := oIx_tup (by omega) (by rw [Int.toNat_natCast, range_at _ h])
theorem ix_tab {n : Nat} (m : Nat) (f : Nat → Nat → Option Rat) {i : Nat} (h : i < n) : oIx (tabD n m f) (.int i) = some (rowD m (f i)) := oIx_tup (by omega) (by rw [Int.toNat_natCast, range_at _ h])
theorem empty_range {α : Type} {n : Nat} (h : 0 < n) (f : Nat → α) : ((List.range n).map f).isEmpty = false := by
  cases n with
  | zero => omega
  | succ n => simp [List.range_succ]
theorem oEq_nil_row {m : Nat} (h : 0 < m) (f : Nat → Option Rat) : oEq (rowD m f) (.tup []) = some (.bl false) := by
  have := oEq_nil _ (shp_row 6 m f)
  rw [empty_range h] at this; exact this
theorem oEq_nil_tab {n : Nat} (m : Nat) (h : 0 < n) (f : Nat → Nat → Option Rat) : oEq (tabD n m f) (.tup []) = some (.bl false) := by
  have := oEq_nil _ (shp_tab 5 n m f)
  rw [empty_range h] at this; exact this
theorem oNe_refl (i : Int) : oNe (.int i) (.int i) = some (.bl false) := by rw [oNe_int, decide_eq_true rfl]; rfl
theorem gLen_row (m : Nat) (f : Nat → Option Rat) : gLen [rowD m f] = some (.int m) := by
  show some (D.int _) = _
  simp
theorem gLen_tab (n m : Nat) (f : Nat → Nat → Option Rat) : gLen [tabD n m f] = some (.int n) := by
  show some (D.int _) = _
  simp
theorem isi_row (m : Nat) (f : Nat → Option Rat) : oIsi "tuple" (rowD m f) = some (.bl true) := isi_tuple_tup _
theorem isi_tab (n m : Nat) (f : Nat → Nat → Option Rat) : oIsi "tuple" (tabD n m f) = some (.bl true) := isi_tuple_tup _
theorem items_row (m : Nat) (f : Nat → Option Rat) : dItems (rowD m f) = some ((List.range m).map fun j => vD (f j)) := rfl
theorem items_tab (n m : Nat) (f : Nat → Nat → Option Rat) : dItems (tabD n m f) = some ((List.range n).map fun i => rowD m (f i)) := rfl
theorem is_table_ev (n m : Nat) (f : Nat → Nat → Option Rat) (t : Tape) (hn : 0 < n) (hn2 : n ≤ 30) (hm : 0 < m) (hm2 : m ≤ 30) : F_tables_is_table [tabD n m f] t = some (.bl true, t) := by
  have g1 : decide ((30 : Int) < (n : Int)) = false := decide_eq_false (by omega)
  have g2 : decide ((30 : Int) < (m : Int)) = false := decide_eq_false (by omega)
  have x0 : oIx (tabD n m f) (.int 0) = some (rowD m (f 0)) := ix_tab m f hn
  obtain ⟨ρ', t', h1, ht, x1, hρ⟩ := forL_at (g := gmName 1) (sm := mIf (mOr (mNot (mTst (mUn (oIsi "tuple") (mVar 1)))) (mOr (mTst (mOp oEq (mVar 1) (mTup mNil))) (mOr (mTst (mOp oNe (mCallB gLen (mCons (mVar 1) mNil)) (mCallB gLen (mCons (mOp oIx (mVar 0) (mC (.int 0))) mNil)))) (mTst (mOp oGt (mCallB gLen (mCons (mVar 1) mNil)) (mC d_tables_MOST_SIZE)))))) (mRet (mC (.bl false))) mSkip) ((List.range n).map fun i => rowD m (f i))
    (fun i ρ t' => t' = t ∧ ∃ x1, ρ = [some (tabD n m f), x1, none]) (fun i d ρ t' hd ⟨ht, x1, hρ⟩ => by
      subst ht hρ
      have hi : i < n := by have := (List.getElem?_eq_some_iff.mp hd).1; simpa using this
      rw [range_at _ hi] at hd
      cases hd
      refine ⟨_, _, rfl, (mIf_f (t' := t') ?_).trans rfl, _, _, .inl rfl, rfl, some (rowD m (f i)), rfl⟩
      simp only [mOr, mNot, mTst, mUn, mVar, mOp, mCallB, mCons, mNil, mC, mTup, d_tables_MOST_SIZE, List.set_cons_succ, List.set_cons_zero, List.getElem?_cons_zero, List.getElem?_cons_succ, Option.bind_some, Option.map_some, isi_row, oEq_nil_row hm, gLen_row, x0, oNe_refl, oGt_int, g2, small_of, List.length_nil, Nat.zero_le, Bool.not_true, Bool.false_eq_true, if_false, if_true])
    (ρ := [some (tabD n m f), none, none]) (t := t) ⟨rfl, none, rfl⟩
  subst ht hρ
  have k1 : ∀ (i : Nat) (x : Option D), lcL (gmName 2) mYes (mCall 1 0 F_values_is_value (mCons (mVar 2) mNil)) [some (tabD n m f), some (rowD m (f i)), x] ((List.range m).map fun j => vD (f i j)) t' = some ((List.range m).map fun _ => D.bl true, t') := fun i x =>
    lcL_map _ _ _ fun j _ => ⟨_, rfl, rfl, by simp! [is_value_ev]⟩
  have hm3 : m ≤ 100000 := by omega
  have hn3 : n ≤ 100000 := by omega
  have k2 : ∀ x y : Option D, lcL (gmName 1) mYes (mCallB gAll (mCons (mLc (mIt (mVar 1)) (gmName 2) mYes (mCall 1 0 F_values_is_value (mCons (mVar 2) mNil)) [2]) mNil)) [some (tabD n m f), x, y] ((List.range n).map fun i => rowD m (f i)) t' = some ((List.range n).map fun _ => D.bl true, t') := fun x y =>
    lcL_map _ _ _ fun i _ => ⟨_, rfl, rfl, by
      simp! [mLc, items_row, k1, hm3, gAll, bls_map_true, all_const_true]⟩
  refine fnM_rt ?_
  unfold m_tables_is_table
  refine (mSeqIf_f (t' := t') ?_).trans ((mSeq_nx ((mFor_of (t' := t') (ds := (List.range n).map fun i => rowD m (f i)) rfl).trans h1)).trans (mRet_of ?_))
  · simp only [mOr, mNot, mTst, mUn, mVar, mOp, mCallB, mCons, mNil, mC, mTup, d_tables_MOST_SIZE, List.map_cons, List.cons_append, List.getElem?_cons_zero, Option.bind_some, Option.map_some, isi_tab, oEq_nil_tab m hn, gLen_tab, oGt_int, g1, small_of, List.length_nil, Nat.zero_le, Bool.not_true, Bool.false_eq_true, if_false, if_true]
  · simp! [mLc, items_tab, k2, hn3, gAll, bls_map_true, all_const_true]
theorem check_table_ev (n m : Nat) (f : Nat → Nat → Option Rat) (t : Tape) (hn : 0 < n) (hn2 : n ≤ 30) (hm : 0 < m) (hm2 : m ≤ 30) : F_tables_check_table [tabD n m f] t = some (.non, t) := by
  simp! [F_tables_check_table, m_tables_check_table, is_table_ev n m f t hn hn2 hm hm2]
theorem check_square_ev (n : Nat) (f : Nat → Nat → Option Rat) (t : Tape) (hn : 0 < n) (hn2 : n ≤ 30) : F_tables_check_square [tabD n n f] t = some (.non, t) := by
  have x0 : oIx (tabD n n f) (.int 0) = some (rowD n (f 0)) := ix_tab n f hn
  simp! [F_tables_check_square, m_tables_check_square, check_table_ev n n f t hn hn2 hn hn2, gLen_tab, gLen_row, x0]
theorem check_row_ev (m : Nat) (f : Nat → Option Rat) (t : Tape) (hm : m ≤ 30) : F_tables_check_row [rowD m f, .int m] t = some (.non, t) := by
  have hm3 : m ≤ 100000 := by omega
  have k1 : ∀ (x : Option D), lcL (gmName 2) mYes (mCall 1 0 F_values_is_value (mCons (mVar 2) mNil)) [some (rowD m f), some (.int m), x] ((List.range m).map fun j => vD (f j)) t = some ((List.range m).map fun _ => D.bl true, t) := fun x =>
    lcL_map _ _ _ fun j _ => ⟨_, rfl, rfl, by simp! [is_value_ev]⟩
  simp! [F_tables_check_row, m_tables_check_row, isi_row, gLen_row, mLc, items_row, k1, hm3, gAll, bls_map_true, all_const_true]
theorem tup_range {n : Nat} (h : n ≤ 100000) (f : Nat → D) : small ((List.range n).map f) = true := small_of (by simpa using h)
/-- the unit table -/
def unitF : Nat → Nat → Option Rat := fun i j => if i = j then some 0 else none
theorem unit_ev (n : Nat) (t : Tape) (hn : n ≤ 30) : F_tables_unit [.int n] t = some (tabD n n unitF, t) := by
  have hn3 : n ≤ 100000 := by omega
  have hr := range1 (n := n) (by omega)
  have k1 : ∀ (i : Nat) (x : Option D), lcL (gmName 2) mYes (mIfE (mTst (mOp oEq (mVar 1) (mVar 2))) (mC d_ratios_ZERO) (mC .non)) [some (.int n), some (.int i), x] ((List.range n).map fun (j : Nat) => D.int j) t = some ((List.range n).map fun j => vD (unitF i j), t) := fun i x =>
    lcL_map _ _ _ fun j _ => ⟨_, rfl, rfl, by
      by_cases h : i = j
      · have h' : ((i : Int) = j) := by omega
        simp! [h', unitF, h]
        rfl
      · have h' : ¬ ((i : Int) = j) := by omega
        simp! [h', unitF, h]
        rfl⟩
  have k2 : ∀ (x y : Option D), lcL (gmName 1) mYes (mCallB gTuple (mCons (mLc (mIter dRange1 (mCons (mVar 0) mNil)) (gmName 2) mYes (mIfE (mTst (mOp oEq (mVar 1) (mVar 2))) (mC d_ratios_ZERO) (mC .non)) [2]) mNil)) [some (.int n), x, y] ((List.range n).map fun (j : Nat) => D.int j) t = some ((List.range n).map fun i => rowD n (unitF i), t) := fun x y =>
    lcL_map _ _ _ fun i _ => ⟨_, rfl, rfl, by
      simp! [mLc, hr, k1, hn3]
      rfl⟩
  simp! [F_tables_unit, m_tables_unit, mLc, hr, k2, hn3]
  rfl
theorem zip_range {α : Type} (n : Nat) (f g : Nat → D) : dZip ((List.range n).map f) ((List.range n).map g) = (List.range n).map fun i => D.tup [f i, g i] := dZip_map f g _
theorem zipA_row (m : Nat) (f g : Nat → Option Rat) : dZipA [rowD m f, rowD m g] = some ((List.range m).map fun j => D.tup [vD (f j), vD (g j)]) := by
  show some (dZip _ _) = _
  rw [dZip_map]
theorem zipA_tab (n m : Nat) (f g : Nat → Nat → Option Rat) : dZipA [tabD n m f, tabD n m g] = some ((List.range n).map fun i => D.tup [rowD m (f i), rowD m (g i)]) := by
  show some (dZip _ _) = _
  rw [dZip_map]
theorem tables_add_ev (n m : Nat) (f g : Nat → Nat → Option Rat) (t : Tape) (hn : 0 < n) (hn2 : n ≤ 30) (hm : 0 < m) (hm2 : m ≤ 30) (hf : ∀ i j, V0 (f i j)) (hg : ∀ i j, V0 (g i j)) : F_tables_add [tabD n m f, tabD n m g] t = some (tabD n m (fun i j => vmax (f i j) (g i j)), t) := by
  have hn3 : n ≤ 100000 := by omega
  have hm3 : m ≤ 100000 := by omega
  have x0 : oIx (tabD n m f) (.int 0) = some (rowD m (f 0)) := ix_tab m f hn
  have x1 : oIx (tabD n m g) (.int 0) = some (rowD m (g 0)) := ix_tab m g hn
  have k1 : ∀ (i : Nat) (A B C E : Option D), lcL (gmTup 2 (gmCons (gmName 4) (gmCons (gmName 5) gmNil))) mYes (mCall 2 0 F_values_greater (mCons (mVar 4) (mCons (mVar 5) mNil))) [A, B, some (rowD m (f i)), some (rowD m (g i)), C, E] ((List.range m).map fun j => D.tup [vD (f i j), vD (g i j)]) t = some ((List.range m).map fun j => vD (vmax (f i j) (g i j)), t) := fun i A B C E =>
    lcL_map _ _ _ fun j _ => ⟨_, rfl, rfl, by simp! [greater_ev (hf i j) (hg i j), pln_vD]⟩
  have k2 : ∀ (A B C E F G : Option D), lcL (gmTup 2 (gmCons (gmName 2) (gmCons (gmName 3) gmNil))) mYes (mCallB gTuple (mCons (mLc (mIter dZipA (mCons (mVar 2) (mCons (mVar 3) mNil))) (gmTup 2 (gmCons (gmName 4) (gmCons (gmName 5) gmNil))) mYes (mCall 2 0 F_values_greater (mCons (mVar 4) (mCons (mVar 5) mNil))) [4, 5]) mNil)) [A, B, C, E, F, G] ((List.range n).map fun i => D.tup [rowD m (f i), rowD m (g i)]) t = some ((List.range n).map fun i => rowD m (fun j => vmax (f i j) (g i j)), t) := fun A B C E F G =>
    lcL_map _ _ _ fun i _ => ⟨_, rfl, rfl, by
      simp! [mLc, zipA_row, k1, hm3]
      rfl⟩
  simp! [F_tables_add, m_tables_add, check_table_ev n m f t hn hn2 hm hm2, check_table_ev n m g t hn hn2 hm hm2, gLen_tab, gLen_row, x0, x1, mLc, zipA_tab, k2, hn3]
  rfl
def dotL (m : Nat) (f g : Nat → Option Rat) : List (Option Rat) := (List.range m).map fun j => vplus (f j) (g j)
theorem dot_ev (m : Nat) (f g : Nat → Option Rat) (t : Tape) (hm : m ≤ 30) (hf : ∀ j, j < m → V0 (f j)) (hg : ∀ j, j < m → V0 (g j)) (hfg : ∀ j, j < m → V0 (vplus (f j) (g j))) : F_tables_dot [rowD m f, rowD m g] t = some (vD (vmaxL none (dotL m f g)), t) := by
  have hm3 : m ≤ 100000 := by omega
  have k1 : ∀ (A B C E : Option D), lcL (gmTup 2 (gmCons (gmName 2) (gmCons (gmName 3) gmNil))) mYes (mCall 2 0 F_values_plus (mCons (mVar 2) (mCons (mVar 3) mNil))) [A, B, C, E] ((List.range m).map fun j => D.tup [vD (f j), vD (g j)]) t = some ((dotL m f g).map vD, t) := fun A B C E => by
    unfold dotL
    rw [List.map_map]
    exact lcL_map _ _ _ fun j hj => ⟨_, rfl, rfl, by
      have hj := List.mem_range.mp hj
      simp! [plus_ev (hf j hj) (hg j hj), pln_vD]
      rfl⟩
  have hl : (dotL m f g).length = m := by unfold dotL; simp
  have hgr := greatest_evL (l := dotL m f g) (fun v hv => by
    unfold dotL at hv
    obtain ⟨j, hj, rfl⟩ := List.mem_map.mp hv
    exact hfg j (List.mem_range.mp hj)) t
  simp! [F_tables_dot, m_tables_dot, mLc, zipA_row, k1, hl, hm3, hgr, pln_vD]
/-- the table times the vector -/
def mulV (m : Nat) (f : Nat → Nat → Option Rat) (v : Nat → Option Rat) : Nat → Option Rat := fun i => vmaxL none (dotL m (f i) v)
theorem on_row_ev (n m : Nat) (f : Nat → Nat → Option Rat) (v : Nat → Option Rat) (t : Tape) (hn : 0 < n) (hn2 : n ≤ 30) (hm : 0 < m) (hm2 : m ≤ 30) (hf : ∀ i j, i < n → j < m → V0 (f i j)) (hv : ∀ j, j < m → V0 (v j)) (hfv : ∀ i j, i < n → j < m → V0 (vplus (f i j) (v j))) : F_tables_on_row [tabD n m f, rowD m v] t = some (rowD n (mulV m f v), t) := by
  have hn3 : n ≤ 100000 := by omega
  have x0 : oIx (tabD n m f) (.int 0) = some (rowD m (f 0)) := ix_tab m f hn
  have k1 : ∀ (C : Option D), lcL (gmName 2) mYes (mCall 2 0 F_tables_dot (mCons (mVar 2) (mCons (mVar 1) mNil))) [some (tabD n m f), some (rowD m v), C] ((List.range n).map fun i => rowD m (f i)) t = some ((List.range n).map fun i => vD (mulV m f v i), t) := fun C =>
    lcL_map _ _ _ fun i hi => ⟨_, rfl, rfl, by
      have hi := List.mem_range.mp hi
      simp! [dot_ev m (f i) v t hm2 (fun j hj => hf i j hi hj) hv (fun j hj => hfv i j hi hj), pln_vD]
      rfl⟩
  simp! [F_tables_on_row, m_tables_on_row, check_table_ev n m f t hn hn2 hm hm2, x0, gLen_row, check_row_ev m v t hm2, mLc, items_tab, k1, hn3]
  rfl
theorem turned_ev (n m : Nat) (f : Nat → Nat → Option Rat) (t : Tape) (hn : 0 < n) (hn2 : n ≤ 30) (hm2 : m ≤ 30) : F_tables_turned [tabD n m f] t = some (tabD m n (fun i j => f j i), t) := by
  have hn3 : n ≤ 100000 := by omega
  have hm3 : m ≤ 100000 := by omega
  have x0 : oIx (tabD n m f) (.int 0) = some (rowD m (f 0)) := ix_tab m f hn
  have hr := range1 (n := m) (by omega)
  have k1 : ∀ (j : Nat), j < m → ∀ (C : Option D), lcL (gmName 2) mYes (mOp oIx (mVar 2) (mVar 1)) [some (tabD n m f), some (.int j), C] ((List.range n).map fun i => rowD m (f i)) t = some ((List.range n).map fun i => vD (f i j), t) := fun j hj C =>
    lcL_map _ _ _ fun i hi => ⟨_, rfl, rfl, by simp! [ix_row (f i) hj]⟩
  have k2 : ∀ (B C : Option D), lcL (gmName 1) mYes (mCallB gTuple (mCons (mLc (mIt (mVar 0)) (gmName 2) mYes (mOp oIx (mVar 2) (mVar 1)) [2]) mNil)) [some (tabD n m f), B, C] ((List.range m).map fun (j : Nat) => D.int j) t = some ((List.range m).map fun j => rowD n (fun i => f i j), t) := fun B C =>
    lcL_map _ _ _ fun j hj => ⟨_, rfl, rfl, by
      simp! [mLc, items_tab, k1 j (List.mem_range.mp hj), hn3]
      rfl⟩
  simp! [F_tables_turned, m_tables_turned, x0, gLen_row, mLc, hr, k2, hm3]
  rfl
end FL.L
set_option maxRecDepth 100000
set_option maxHeartbeats 400000
noncomputable section
namespace FL
open PySem PySem.Spec PyProof.Rows L2 FL
/-! weakest preconditions of mirrors -/
def wp {α : Type} (x : Option α) (K : α → Prop) : Prop := ∃ a, x = some a ∧ K a
theorem wp_congr {α : Type} {x y : Option α} {K : α → Prop} (h : x = y) : wp x K = wp y K := by rw [h]
theorem wp_some {α : Type} {a : α} {K : α → Prop} : wp (some a) K = K a := propext ⟨fun ⟨b, e, k⟩ => by cases e; exact k, fun k => ⟨a, rfl, k⟩⟩
theorem wp_none {α : Type} {K : α → Prop} : wp none K = False := propext ⟨fun ⟨b, e, k⟩ => (by cases e), fun k => False.elim k⟩
theorem wp_bind {α β : Type} {x : Option α} {f : α → Option β} {K : β → Prop} : wp (x.bind f) K = wp x fun a => wp (f a) K := propext ⟨fun ⟨b, e, k⟩ => by
  cases x with
  | none => cases e
  | some a => exact ⟨a, rfl, b, e, k⟩, fun ⟨a, e, b, e2, k⟩ => ⟨b, by rw [e]; exact e2, k⟩⟩
theorem wp_map {α β : Type} {x : Option α} {f : α → β} {K : β → Prop} : wp (x.map f) K = wp x fun a => K (f a) := propext ⟨fun ⟨b, e, k⟩ => by
  cases x with
  | none => cases e
  | some a => cases e; exact ⟨a, rfl, k⟩, fun ⟨a, e, k⟩ => ⟨f a, by rw [e]; rfl, k⟩⟩
theorem wp_eq {α : Type} {x : Option α} {a : α} (h : wp x fun b => b = a) : x = some a := by
  obtain ⟨b, e, k⟩ := h
  rw [e, k]
theorem wp_of {α : Type} {x : Option α} {a : α} {K : α → Prop} (h : x = some a) (k : K a) : wp x K := ⟨a, h, k⟩
theorem wp_imp {α : Type} {x : Option α} {K L : α → Prop} (h : wp x K) (k : ∀ a, K a → L a) : wp x L := let ⟨a, e, q⟩ := h; ⟨a, e, k a q⟩
/-- a choice that looks at nothing but its test -/
def iteK (b : Bool) (A B : Prop) : Prop := if b = true then A else B
theorem iteK_congr {b c : Bool} {A B : Prop} (h : b = c) : iteK b A B = iteK c A B := by rw [h]
theorem iteK_t {A B : Prop} : iteK true A B = A := rfl
theorem iteK_f {A B : Prop} : iteK false A B = B := by unfold iteK; rw [if_neg Bool.false_ne_true]
theorem iteK_not {b : Bool} {A B : Prop} : iteK (!b) A B = iteK b B A := by cases b <;> rfl
theorem iteK_split {b : Bool} {A B : Prop} (h1 : b = true → A) (h2 : b = false → B) : iteK b A B := by
  cases b with
  | true => exact h1 rfl
  | false => rw [iteK_f]; exact h2 rfl
theorem iteK_of_t {b : Bool} {A B : Prop} (h : b = true) (k : A) : iteK b A B := by rw [h]; exact k
theorem iteK_of_f {b : Bool} {A B : Prop} (h : b = false) (k : B) : iteK b A B := by rw [h, iteK_f]; exact k
theorem iteK_dt {p : Prop} [Decidable p] {A B : Prop} (h : p) (k : A) : iteK (decide p) A B := iteK_of_t (decide_eq_true h) k
theorem iteK_df {p : Prop} [Decidable p] {A B : Prop} (h : ¬ p) (k : B) : iteK (decide p) A B := iteK_of_f (decide_eq_false h) k
/-- a side condition first, then the rest -/
def gdK (b : Bool) (A : Prop) : Prop := b = true ∧ A
theorem gdK_congr {b c : Bool} {A : Prop} (h : b = c) : gdK b A = gdK c A := by rw [h]
theorem gdK_t {A : Prop} : gdK true A = A := by unfold gdK; simp
theorem gdK_of {b : Bool} {A : Prop} (h : b = true) (k : A) : gdK b A := ⟨h, k⟩
/-! names -/
def wVar (x : Option (Option D)) (t : Tape) (K : D × Tape → Prop) : Prop := match x with
  | some (some d) => K (d, t)
  | _ => False
theorem wVar_congr {x y : Option (Option D)} {t : Tape} {K : D × Tape → Prop} (h : x = y) : wVar x t K = wVar y t K := by rw [h]
theorem wVar_some {d : D} {t : Tape} {K : D × Tape → Prop} : wVar (some (some d)) t K = K (d, t) := rfl
theorem w_var {i : Nat} {ρ : Env} {t : Tape} {K : D × Tape → Prop} : wp (mVar i ρ t) K = wVar ρ[i]? t K := by
  unfold mVar
  cases e : ρ[i]? with
  | none => exact wp_none
  | some x =>
    cases x with
    | none => exact wp_none
    | some d => exact wp_some
theorem w_c {d : D} {ρ : Env} {t : Tape} {K : D × Tape → Prop} : wp (mC d ρ t) K = K (d, t) := wp_some
section
variable {ρ : Env} {t : Tape} {f : D → D → Option D} {h1 : D → Option D} {g : List D → Option D} {ma mb mc : EM} {ba bb : BM} {mr : AM} {n lv i j l : Nat} {fm : FM} {mi : IM} {gm : GM} {sm s1 s2 : SM}
theorem w_op {K : D × Tape → Prop} : wp (mOp f ma mb ρ t) K = wp (ma ρ t) fun p => wp (mb ρ p.2) fun q => wp (f p.1 q.1) fun d => K (d, q.2) := by
  unfold mOp; simp only [wp_bind, wp_map]
theorem w_un {K : D × Tape → Prop} : wp (mUn h1 ma ρ t) K = wp (ma ρ t) fun p => wp (h1 p.1) fun d => K (d, p.2) := by
  unfold mUn; simp only [wp_bind, wp_map]
theorem w_nil {K : List D × Tape → Prop} : wp (mNil ρ t) K = K ([], t) := wp_some
theorem w_cons {K : List D × Tape → Prop} : wp (mCons ma mr ρ t) K = wp (ma ρ t) fun p => wp (mr ρ p.2) fun q => K (p.1 :: q.1, q.2) := by
  unfold mCons; simp only [wp_bind, wp_map]
theorem w_gd {α : Type} {b : Bool} {x : Option α} {K : α → Prop} : wp (if b = true then x else none) K = gdK b (wp x K) := by
  cases b with
  | true => simp only [if_true, gdK_t]
  | false => simp only [Bool.false_eq_true, if_false, wp_none, gdK, false_and]
theorem w_gdP {α : Type} {p : Prop} [Decidable p] {x : Option α} {K : α → Prop} : wp (if p then x else none) K = gdK (decide p) (wp x K) := by
  by_cases h : p
  · simp only [h, if_true, decide_true, gdK_t]
  · simp only [h, if_false, wp_none, decide_false, gdK, Bool.false_eq_true, false_and]
theorem w_tup {K : D × Tape → Prop} : wp (mTup mr ρ t) K = wp (mr ρ t) fun p => gdK (small p.1) (K (.tup p.1, p.2)) := by
  unfold mTup; simp only [wp_bind, w_gd, wp_some]
theorem w_lst {K : D × Tape → Prop} : wp (mLst mr ρ t) K = wp (mr ρ t) fun p => gdK (small p.1) (K (.lst p.1, p.2)) := by
  unfold mLst; simp only [wp_bind, w_gd, wp_some]
theorem w_callB {K : D × Tape → Prop} : wp (mCallB g mr ρ t) K = wp (mr ρ t) fun p => wp (g p.1) fun d => K (d, p.2) := by
  unfold mCallB; simp only [wp_bind, wp_map]
theorem w_call {K : D × Tape → Prop} : wp (mCall n lv fm mr ρ t) K = wp (mr ρ t) fun p => gdK (p.1.length == n) (wp (fm p.1 p.2) fun q => gdK (plnL lv q.1) (K q)) := by
  unfold mCall
  simp only [wp_bind]
  congr 1; funext p
  by_cases h : p.1.length = n
  · simp only [h, if_true, beq_self_eq_true, gdK_t, wp_bind, w_gd, wp_some]
  · have : (p.1.length == n) = false := by simp [h]
    simp only [h, if_false, wp_none, this, gdK, Bool.false_eq_true, false_and]
theorem w_ifE {K : D × Tape → Prop} : wp (mIfE ba ma mb ρ t) K = wp (ba ρ t) fun p => iteK p.1 (wp (ma ρ p.2) K) (wp (mb ρ p.2) K) := by
  unfold mIfE
  simp only [wp_bind]
  congr 1; funext p
  cases p.1
  · simp only [Bool.false_eq_true, if_false, iteK_f]
  · simp only [if_true, iteK_t]
def wBl (d : D) (K : Bool → Prop) : Prop := match d with
  | .bl b => K b
  | _ => False
theorem wBl_congr {d e : D} {K : Bool → Prop} (h : d = e) : wBl d K = wBl e K := by rw [h]
theorem wBl_bl {b : Bool} {K : Bool → Prop} : wBl (.bl b) K = K b := rfl
theorem w_tst {K : Bool × Tape → Prop} : wp (mTst ma ρ t) K = wp (ma ρ t) fun p => wBl p.1 fun b => K (b, p.2) := by
  unfold mTst
  simp only [wp_bind]
  congr 1; funext p
  cases p.1 <;> simp only [wp_some, wp_none, wBl]
theorem w_andV {K : D × Tape → Prop} : wp (mAndV ma mb ρ t) K = wp (ma ρ t) fun p => wBl p.1 fun b => iteK b (wp (mb ρ p.2) K) (K (.bl false, p.2)) := by
  unfold mAndV
  simp only [wp_bind]
  congr 1; funext p
  cases p.1 <;> simp only [wp_some, wp_none, wBl]
  rename_i b
  cases b <;> simp only [wp_some, iteK_t, iteK_f]
theorem w_orV {K : D × Tape → Prop} : wp (mOrV ma mb ρ t) K = wp (ma ρ t) fun p => wBl p.1 fun b => iteK b (K (.bl true, p.2)) (wp (mb ρ p.2) K) := by
  unfold mOrV
  simp only [wp_bind]
  congr 1; funext p
  cases p.1 <;> simp only [wp_some, wp_none, wBl]
  rename_i b
  cases b <;> simp only [wp_some, iteK_t, iteK_f]
theorem w_notV {K : D × Tape → Prop} : wp (mNotV ma ρ t) K = wp (ma ρ t) fun p => wBl p.1 fun b => K (.bl (!b), p.2) := by
  unfold mNotV
  simp only [wp_bind]
  congr 1; funext p
  cases p.1 <;> simp only [wp_some, wp_none, wBl]
theorem w_and {K : Bool × Tape → Prop} : wp (mAnd ba bb ρ t) K = wp (ba ρ t) fun p => iteK p.1 (wp (bb ρ p.2) K) (K (false, p.2)) := by
  unfold mAnd
  simp only [wp_bind]
  congr 1; funext p
  cases p.1
  · simp only [Bool.false_eq_true, if_false, iteK_f, wp_some]
  · simp only [if_true, iteK_t]
theorem w_or {K : Bool × Tape → Prop} : wp (mOr ba bb ρ t) K = wp (ba ρ t) fun p => iteK p.1 (K (true, p.2)) (wp (bb ρ p.2) K) := by
  unfold mOr
  simp only [wp_bind]
  congr 1; funext p
  cases p.1
  · simp only [Bool.false_eq_true, if_false, iteK_f]
  · simp only [if_true, iteK_t, wp_some]
theorem w_not {K : Bool × Tape → Prop} : wp (mNot ba ρ t) K = wp (ba ρ t) fun p => K (!p.1, p.2) := by unfold mNot; simp only [wp_map]
theorem w_yes {K : Bool × Tape → Prop} : wp (mYes ρ t) K = K (true, t) := wp_some
theorem w_noO {K : Option Int × Tape → Prop} : wp (mNoO ρ t) K = K (none, t) := wp_some
def wInt (d : D) (K : Int → Prop) : Prop := match d with
  | .int i => K i
  | _ => False
theorem wInt_congr {d e : D} {K : Int → Prop} (h : d = e) : wInt d K = wInt e K := by rw [h]
theorem wInt_int {i : Int} {K : Int → Prop} : wInt (.int i) K = K i := rfl
theorem w_O {K : Option Int × Tape → Prop} : wp (mO ma ρ t) K = wp (ma ρ t) fun p => wInt p.1 fun i => K (some i, p.2) := by
  unfold mO
  simp only [wp_bind]
  congr 1; funext p
  cases p.1 <;> simp only [wp_some, wp_none, wInt]
theorem w_sl {f : D → Option Int → Option Int → Option D} {ml mh : OM} {K : D × Tape → Prop} : wp (mSl f ma ml mh ρ t) K = wp (ma ρ t) fun p => wp (ml ρ p.2) fun q => wp (mh ρ q.2) fun r => wp (f p.1 q.1 r.1) fun d => K (d, r.2) := by
  unfold mSl; simp only [wp_bind, wp_map]
theorem w_lc {c : BM} {e : EM} {vs : List Nat} {K : D × Tape → Prop} : wp (mLc mi gm c e vs ρ t) K = wp (mi ρ t) fun p => wp (lcL gm c e (wipeE ρ vs) p.1 p.2) fun q => gdK (small q.1) (K (.lst q.1, q.2)) := by
  unfold mLc; simp only [wp_bind, w_gd, wp_some]
theorem w_it {K : List D × Tape → Prop} : wp (mIt ma ρ t) K = wp (ma ρ t) fun p => wp (dItems p.1) fun l => K (l, p.2) := by
  unfold mIt; simp only [wp_bind, wp_map]
theorem w_iter {f : List D → Option (List D)} {K : List D × Tape → Prop} : wp (mIter f mr ρ t) K = wp (mr ρ t) fun p => wp (f p.1) fun l => K (l, p.2) := by
  unfold mIter; simp only [wp_bind, wp_map]
/-! targets -/
theorem w_gname {d : D} {K : Env → Prop} : wp (gmName i d ρ) K = K (ρ.set i (some d)) := wp_some
theorem w_gtup {ms : GMs} {ds : List D} {K : Env → Prop} : wp (gmTup n ms (.tup ds) ρ) K = gdK (ds.length == n) (wp (ms ds ρ) K) := by
  unfold gmTup
  by_cases h : ds.length = n
  · simp only [h, if_true, beq_self_eq_true, gdK_t]
  · have : (ds.length == n) = false := by simp [h]
    simp only [h, if_false, wp_none, this, gdK, Bool.false_eq_true, false_and]
theorem w_gnil {K : Env → Prop} : wp (gmNil [] ρ) K = K ρ := wp_some
theorem w_gcons {ms : GMs} {d : D} {ds : List D} {K : Env → Prop} : wp (gmCons gm ms (d :: ds) ρ) K = wp (gm d ρ) fun ρ1 => wp (ms ds ρ1) K := by
  show wp ((gm d ρ).bind _) K = _
  rw [wp_bind]
/-! statements -/
theorem w_skip {K : Out → Prop} : wp (mSkip ρ t) K = K (.nx ρ t) := wp_some
def seqK (m : SM) (K : Out → Prop) : Out → Prop
  | .nx ρ t => wp (m ρ t) K
  | o => K o
theorem seqK_nx {m : SM} {K : Out → Prop} : seqK m K (.nx ρ t) = wp (m ρ t) K := rfl
theorem seqK_rt {m : SM} {K : Out → Prop} {d : D} : seqK m K (.rt d t) = K (.rt d t) := rfl
theorem seqK_bk {m : SM} {K : Out → Prop} : seqK m K (.bk ρ t) = K (.bk ρ t) := rfl
theorem seqK_ct {m : SM} {K : Out → Prop} : seqK m K (.ct ρ t) = K (.ct ρ t) := rfl
theorem w_seq {K : Out → Prop} : wp (mSeq s1 s2 ρ t) K = wp (s1 ρ t) (seqK s2 K) := by
  unfold mSeq
  rw [wp_bind]
  congr 1; funext o
  cases o <;> simp only [seqK, wp_some]
theorem w_if {K : Out → Prop} : wp (mIf ba s1 s2 ρ t) K = wp (ba ρ t) fun p => iteK p.1 (wp (s1 ρ p.2) K) (wp (s2 ρ p.2) K) := by
  unfold mIf
  simp only [wp_bind]
  congr 1; funext p
  cases p.1
  · simp only [Bool.false_eq_true, if_false, iteK_f]
  · simp only [if_true, iteK_t]
theorem w_ret {K : Out → Prop} : wp (mRet ma ρ t) K = wp (ma ρ t) fun p => K (.rt p.1 p.2) := by unfold mRet; simp only [wp_map]
theorem w_retN {K : Out → Prop} : wp (mRetN ρ t) K = K (.rt .non t) := wp_some
theorem w_break {K : Out → Prop} : wp (mBreak ρ t) K = K (.bk ρ t) := wp_some
theorem w_cont {K : Out → Prop} : wp (mCont ρ t) K = K (.ct ρ t) := wp_some
theorem w_set {K : Out → Prop} : wp (mSet i ma ρ t) K = wp (ma ρ t) fun p => K (.nx (ρ.set i (some p.1)) p.2) := by unfold mSet; simp only [wp_map]
theorem w_asg {K : Out → Prop} : wp (mAsg ma gm ρ t) K = wp (ma ρ t) fun p => wp (gm p.1 ρ) fun ρ1 => K (.nx ρ1 p.2) := by unfold mAsg; simp only [wp_bind, wp_map]
theorem w_drop {K : Out → Prop} : wp (mDrop ma ρ t) K = wp (ma ρ t) fun p => K (.nx ρ p.2) := by unfold mDrop; simp only [wp_map]
theorem w_par2 {K : Out → Prop} : wp (mPar2 i j ma mb ρ t) K = wp (ma ρ t) fun p => wp (mb ρ p.2) fun q => K (.nx ((ρ.set i (some p.1)).set j (some q.1)) q.2) := by unfold mPar2; simp only [wp_bind, wp_map]
theorem w_par3 {K : Out → Prop} : wp (mPar3 i j l ma mb mc ρ t) K = wp (ma ρ t) fun p => wp (mb ρ p.2) fun q => wp (mc ρ q.2) fun r => K (.nx (((ρ.set i (some p.1)).set j (some q.1)).set l (some r.1)) r.2) := by unfold mPar3; simp only [wp_bind, wp_map]
theorem w_for {K : Out → Prop} : wp (mFor mi gm sm ρ t) K = wp (mi ρ t) fun p => wp (forL gm sm p.1 ρ p.2) K := by unfold mFor; simp only [wp_bind]
theorem w_while {fu : Env → Tape → Nat} {K : Out → Prop} : wp (mWhile fu ba sm ρ t) K = wp (whileN ba sm (fu ρ t) ρ t) K := rfl
/-- x op= e, x known by its slot -/
def wSlotI (x : Option (Option D)) (K : Int → Prop) : Prop := match x with
  | some (some (.int a)) => K a
  | _ => False
theorem wSlotI_congr {x y : Option (Option D)} {K : Int → Prop} (h : x = y) : wSlotI x K = wSlotI y K := by rw [h]
theorem wSlotI_int {i : Int} {K : Int → Prop} : wSlotI (some (some (.int i))) K = K i := rfl
def wSlotL (x : Option (Option D)) (K : List D → Prop) : Prop := match x with
  | some (some (.lst l)) => K l
  | _ => False
theorem wSlotL_congr {x y : Option (Option D)} {K : List D → Prop} (h : x = y) : wSlotL x K = wSlotL y K := by rw [h]
theorem wSlotL_lst {l : List D} {K : List D → Prop} : wSlotL (some (some (.lst l))) K = K l := rfl
theorem w_aug {f : Int → Int → Int} {K : Out → Prop} : wp (mAug i f ma ρ t) K = wSlotI ρ[i]? fun a => wp (ma ρ t) fun p => wInt p.1 fun b => K (.nx (ρ.set i (some (.int (f a b)))) p.2) := by
  unfold mAug
  cases e : ρ[i]? with
  | none => exact wp_none
  | some x =>
    cases x with
    | none => exact wp_none
    | some d =>
      cases d <;> simp only [wp_none, wSlotI]
      simp only [wp_bind]
      congr 1; funext p
      cases p.1 <;> simp only [wp_some, wp_none, wInt]
theorem w_app {K : Out → Prop} : wp (mApp i ma ρ t) K = wSlotL ρ[i]? fun l => wp (ma ρ t) fun p => gdK (small l) (K (.nx (ρ.set i (some (.lst (l ++ [p.1])))) p.2)) := by
  unfold mApp
  cases e : ρ[i]? with
  | none => exact wp_none
  | some x =>
    cases x with
    | none => exact wp_none
    | some d => cases d <;> simp only [wp_none, wSlotL, wp_bind, w_gd, wp_some]
def wLst (d : D) (K : List D → Prop) : Prop := match d with
  | .lst l => K l
  | _ => False
theorem wLst_congr {d e : D} {K : List D → Prop} (h : d = e) : wLst d K = wLst e K := by rw [h]
theorem wLst_lst {l : List D} {K : List D → Prop} : wLst (.lst l) K = K l := rfl
theorem w_ext {K : Out → Prop} : wp (mExt i ma ρ t) K = wSlotL ρ[i]? fun l => wp (ma ρ t) fun p => wLst p.1 fun r => gdK (small (l ++ r)) (K (.nx (ρ.set i (some (.lst (l ++ r)))) p.2)) := by
  unfold mExt
  cases e : ρ[i]? with
  | none => exact wp_none
  | some x =>
    cases x with
    | none => exact wp_none
    | some d =>
      cases d <;> simp only [wp_none, wSlotL, wp_bind]
      congr 1; funext p
      cases p.1 <;> simp only [wp_some, wp_none, wLst, w_gd]
theorem w_setI {K : Out → Prop} : wp (mSetI i ma mb ρ t) K = wp (mb ρ t) fun p => wp (ma ρ p.2) fun q => wSlotL ρ[i]? fun l => wInt q.1 fun j => wp (ixN l.length j) fun z => K (.nx (ρ.set i (some (.lst (l.set z p.1)))) q.2) := by
  unfold mSetI
  simp only [wp_bind]
  congr 1; funext p; congr 1; funext q
  cases e : ρ[i]? with
  | none => exact wp_none
  | some x =>
    cases x with
    | none => exact wp_none
    | some d =>
      cases d <;> cases q.1 <;> simp only [wp_none, wSlotL, wInt, wp_map]
def wSlot2 (x : Option D) (K : List D → Prop) : Prop := match x with
  | some (.lst l) => K l
  | _ => False
theorem wSlot2_congr {x y : Option D} {K : List D → Prop} (h : x = y) : wSlot2 x K = wSlot2 y K := by rw [h]
theorem wSlot2_lst {l : List D} {K : List D → Prop} : wSlot2 (some (.lst l)) K = K l := rfl
theorem w_setI2 {K : Out → Prop} : wp (mSetI2 i ma mb mc ρ t) K = wp (mc ρ t) fun p => wp (ma ρ p.2) fun q => wp (mb ρ q.2) fun r => wSlotL ρ[i]? fun l => wInt q.1 fun j => wInt r.1 fun k => wp (ixN l.length j) fun a => wSlot2 l[a]? fun m => wp (ixN m.length k) fun b => K (.nx (ρ.set i (some (.lst (l.set a (.lst (m.set b p.1)))))) r.2) := by
  unfold mSetI2
  simp only [wp_bind]
  congr 1; funext p; congr 1; funext q; congr 1; funext r
  cases e : ρ[i]? with
  | none => exact wp_none
  | some x =>
    cases x with
    | none => exact wp_none
    | some d =>
      cases d <;> cases q.1 <;> cases r.1 <;> simp only [wp_none, wSlotL, wInt, wp_bind]
      congr 1; funext a
      rename_i l _ _
      cases e2 : l[a]? with
      | none => exact wp_none
      | some y => cases y <;> simp only [wp_none, wSlot2, wp_map]
/-! defs -/
def fnK (lv : Nat) (K : D × Tape → Prop) : Out → Prop
  | .rt d t => K (d, t)
  | .nx _ t => gdK (lv == 0) (K (.non, t))
  | _ => False
theorem fnK_rt {K : D × Tape → Prop} {d : D} : fnK lv K (.rt d t) = K (d, t) := rfl
theorem fnK_nx {K : D × Tape → Prop} : fnK lv K (.nx ρ t) = gdK (lv == 0) (K (.non, t)) := rfl
theorem w_fn {N : Nat} {ds : List D} {K : D × Tape → Prop} : wp (fnM N lv sm ds t) K = wp (sm (ds.map some ++ List.replicate (N - ds.length) none) t) (fnK lv K) := by
  unfold fnM
  rw [wp_bind]
  congr 1; funext o
  cases o with
  | nx ρ t' =>
    by_cases h : lv = 0
    · subst h; simp only [if_true, wp_some, fnK, beq_self_eq_true, gdK_t]
    · have : (lv == 0) = false := by simp [h]
      simp only [h, if_false, wp_none, fnK, this, gdK, Bool.false_eq_true, false_and]
  | rt d t' => simp only [wp_some, fnK]
  | bk ρ t' => simp only [wp_none, fnK]
  | ct ρ t' => simp only [wp_none, fnK]
/-! loops -/
/-- what a round of a loop ends in -/
def loopK (P : Env → Tape → Prop) (K : Out → Prop) : Out → Prop
  | .nx ρ t => P ρ t
  | .ct ρ t => P ρ t
  | .bk ρ t => K (.nx ρ t)
  | .rt d t => K (.rt d t)
theorem loopK_nx {P : Env → Tape → Prop} {K : Out → Prop} : loopK P K (.nx ρ t) = P ρ t := rfl
theorem loopK_ct {P : Env → Tape → Prop} {K : Out → Prop} : loopK P K (.ct ρ t) = P ρ t := rfl
theorem loopK_bk {P : Env → Tape → Prop} {K : Out → Prop} : loopK P K (.bk ρ t) = K (.nx ρ t) := rfl
theorem loopK_rt {P : Env → Tape → Prop} {K : Out → Prop} {d : D} : loopK P K (.rt d t) = K (.rt d t) := rfl
theorem wp_for_ind (P : List D → Env → Tape → Prop) {K : Out → Prop} (hs : ∀ d ds ρ t, P (d :: ds) ρ t → wp (gm d ρ) fun ρ1 => wp (sm ρ1 t) (loopK (P ds) K)) (k : ∀ ρ t, P [] ρ t → K (.nx ρ t)) : ∀ ds ρ t, P ds ρ t → wp (forL gm sm ds ρ t) K
  | [], ρ, t, h => ⟨_, rfl, k ρ t h⟩
  | d :: ds, ρ, t, h => by
    obtain ⟨ρ1, e1, o, e2, h2⟩ := hs d ds ρ t h
    show wp ((gm d ρ).bind _) K
    rw [e1]
    show wp ((sm ρ1 t).bind _) K
    rw [e2]
    cases o with
    | nx ρ' t' => exact wp_for_ind P hs k ds ρ' t' h2
    | ct ρ' t' => exact wp_for_ind P hs k ds ρ' t' h2
    | bk ρ' t' => exact ⟨_, rfl, h2⟩
    | rt d' t' => exact ⟨_, rfl, h2⟩
theorem w_forN {K : Out → Prop} : wp (forL gm sm [] ρ t) K = K (.nx ρ t) := wp_some
theorem w_forC {d : D} {ds : List D} {K : Out → Prop} : wp (forL gm sm (d :: ds) ρ t) K = wp (gm d ρ) fun ρ1 => wp (sm ρ1 t) (loopK (fun ρ t => wp (forL gm sm ds ρ t) K) K) := by
  show wp ((gm d ρ).bind fun ρ1 => (sm ρ1 t).bind _) K = _
  simp only [wp_bind]
  congr 1; funext ρ1; congr 1; funext o
  cases o <;> simp only [loopK, wp_some]
/-- a loop by the items done -/
theorem wp_for (P : Nat → Env → Tape → Prop) {ds : List D} {K : Out → Prop} (h0 : P 0 ρ t) (hs : ∀ i d ρ t, ds[i]? = some d → P i ρ t → wp (gm d ρ) fun ρ1 => wp (sm ρ1 t) (loopK (P (i + 1)) K)) (k : ∀ ρ t, P ds.length ρ t → K (.nx ρ t)) : wp (forL gm sm ds ρ t) K := by
  refine wp_for_ind (gm := gm) (sm := sm) (fun r ρ t => ∃ i, ds.drop i = r ∧ i ≤ ds.length ∧ P i ρ t) (K := K) (fun d r ρ t ⟨i, e, hi, p⟩ => ?_) (fun ρ t ⟨i, e, hi, p⟩ => ?_) ds ρ t ⟨0, rfl, Nat.zero_le _, h0⟩
  · have hlt : i < ds.length := by
      by_cases z : i < ds.length
      · exact z
      · rw [List.drop_eq_nil_of_le (by omega)] at e; cases e
    rw [List.drop_eq_getElem_cons hlt] at e
    injection e with e1 e2
    refine wp_imp (hs i d ρ t (by rw [List.getElem?_eq_getElem hlt, e1]) p) fun ρ1 h => wp_imp h fun o h => ?_
    cases o with
    | nx ρ' t' => exact ⟨i + 1, e2, hlt, h⟩
    | ct ρ' t' => exact ⟨i + 1, e2, hlt, h⟩
    | bk ρ' t' => exact h
    | rt d' t' => exact h
  · have : ds.length ≤ i := by simpa using e
    have e : i = ds.length := by omega
    exact k ρ t (by rw [← e]; exact p)
/-- the same over a mapped list -/
theorem wp_forM {α : Type} (xs : List α) (φ : α → D) (P : Nat → Env → Tape → Prop) {K : Out → Prop} (h0 : P 0 ρ t) (hs : ∀ i a ρ t, xs[i]? = some a → P i ρ t → wp (gm (φ a) ρ) fun ρ1 => wp (sm ρ1 t) (loopK (P (i + 1)) K)) (k : ∀ ρ t, P xs.length ρ t → K (.nx ρ t)) : wp (forL gm sm (xs.map φ) ρ t) K :=
  wp_for P h0 (fun i d ρ t e p => by
    rw [List.getElem?_map] at e
    cases e2 : xs[i]? with
    | none => rw [e2] at e; cases e
    | some a => rw [e2] at e; cases e; exact hs i a ρ t e2 p) fun ρ t p => k ρ t (by rw [List.length_map] at p; exact p)
/-- over range(n) -/
theorem wp_forR {n : Nat} (φ : Nat → D) (P : Nat → Env → Tape → Prop) {K : Out → Prop} (h0 : P 0 ρ t) (hs : ∀ i ρ t, i < n → P i ρ t → wp (gm (φ i) ρ) fun ρ1 => wp (sm ρ1 t) (loopK (P (i + 1)) K)) (k : ∀ ρ t, P n ρ t → K (.nx ρ t)) : wp (forL gm sm ((List.range n).map φ) ρ t) K :=
  wp_forM _ φ P h0 (fun i a ρ t e p => by
    have hi : i < n := by have := (List.getElem?_eq_some_iff.mp e).1; simpa using this
    rw [List.getElem?_range hi] at e
    cases e
    exact hs i ρ t hi p) fun ρ t p => k ρ t (by rw [List.length_range] at p; exact p)
/-- while: M says what holds with a measure -/
theorem wp_whileN (M : Nat → Env → Tape → Prop) {K : Out → Prop} (hs : ∀ m ρ t, M m ρ t → wp (ba ρ t) fun p => iteK p.1 (wp (sm ρ p.2) (loopK (fun ρ t => ∃ m', m' < m ∧ M m' ρ t) K)) (K (.nx ρ p.2))) : ∀ n m ρ t, m < n → M m ρ t → wp (whileN ba sm n ρ t) K
  | 0, m, ρ, t, h, _ => absurd h (Nat.not_lt_zero _)
  | n + 1, m, ρ, t, h, hM => by
    obtain ⟨p, e1, h2⟩ := hs m ρ t hM
    show wp ((ba ρ t).bind _) K
    rw [e1]
    show wp (if p.1 = true then _ else _) K
    cases hp : p.1 with
    | false =>
      rw [hp, iteK_f] at h2
      simp only [Bool.false_eq_true, if_false]
      exact ⟨_, rfl, h2⟩
    | true =>
      rw [hp, iteK_t] at h2
      simp only [if_true]
      obtain ⟨o, e3, h4⟩ := h2
      rw [e3]
      cases o with
      | nx ρ' t' => obtain ⟨m', hm, hM'⟩ := h4; exact wp_whileN M hs n m' ρ' t' (by omega) hM'
      | ct ρ' t' => obtain ⟨m', hm, hM'⟩ := h4; exact wp_whileN M hs n m' ρ' t' (by omega) hM'
      | bk ρ' t' => exact ⟨_, rfl, h4⟩
      | rt d' t' => exact ⟨_, rfl, h4⟩
theorem wp_while {fuel : Nat} (M : Nat → Env → Tape → Prop) (m : Nat) {K : Out → Prop} (hm : m < fuel) (h0 : M m ρ t) (hs : ∀ m ρ t, M m ρ t → wp (ba ρ t) fun p => iteK p.1 (wp (sm ρ p.2) (loopK (fun ρ t => ∃ m', m' < m ∧ M m' ρ t) K)) (K (.nx ρ p.2))) : wp (whileN ba sm fuel ρ t) K :=
  wp_whileN M hs fuel m ρ t hm h0
/-- comprehensions -/
theorem lcL_filter' {α : Type} {c : BM} {e : EM} (l : List α) (φ ψ : α → D) (p : α → Bool) (h : ∀ a ∈ l, ∃ ρ1, gm (φ a) ρ = some ρ1 ∧ c ρ1 t = some (p a, t) ∧ (p a = true → e ρ1 t = some (ψ a, t))) : lcL gm c e ρ (l.map φ) t = some ((l.filter p).map ψ, t) := by
  induction l with
  | nil => rfl
  | cons a l ih =>
    obtain ⟨ρ1, h1, h2, h3⟩ := h a List.mem_cons_self
    have ih := ih fun b hb => h b (List.mem_cons_of_mem _ hb)
    simp only [List.map_cons, lcL, h1, Option.bind_some, h2]
    by_cases hp : p a = true
    · rw [if_pos hp, h3 hp, List.filter_cons_of_pos hp]
      simp only [Option.bind_some, ih, Option.map_some, List.map_cons]
    · rw [if_neg hp, List.filter_cons_of_neg hp, ih]
theorem lcL_draw' {α β : Type} {c : BM} {e : EM} (l : List α) (φ : α → D) (ψ : β → D) (S : α → β → Prop) (h : ∀ a ∈ l, ∀ t, TOk t → ∃ ρ1 b t', gm (φ a) ρ = some ρ1 ∧ c ρ1 t = some (true, t) ∧ e ρ1 t = some (ψ b, t') ∧ TOk t' ∧ S a b) : ∀ t, TOk t → ∃ (bs : List β) (t' : Tape), lcL gm c e ρ (l.map φ) t = some (bs.map ψ, t') ∧ TOk t' ∧ bs.length = l.length ∧ ∀ (i : Nat) (a : α) (b : β), l[i]? = some a → bs[i]? = some b → S a b := by
  induction l with
  | nil => exact fun t ht => ⟨[], t, rfl, ht, rfl, fun i a b h => by simp at h⟩
  | cons a l ih =>
    intro t ht
    obtain ⟨ρ1, b, t1, h1, h2, h3, h4, h5⟩ := h a List.mem_cons_self t ht
    obtain ⟨bs, t', k1, k2, k3, k4⟩ := ih (fun b hb => h b (List.mem_cons_of_mem _ hb)) t1 h4
    refine ⟨b :: bs, t', ?_, k2, by simp [k3], fun i x y hx hy => ?_⟩
    · simp only [List.map_cons, lcL, h1, Option.bind_some, h2, if_true, h3, k1, Option.map_some]
    · cases i with
      | zero => simp at hx hy; subst hx; subst hy; exact h5
      | succ i => exact k4 i x y (by simpa using hx) (by simpa using hy)
theorem wp_lcF {α : Type} {c : BM} {e : EM} (xs : List α) (φ ψ : α → D) (p : α → Bool) {K : List D × Tape → Prop} (h : ∀ a ∈ xs, wp (gm (φ a) ρ) fun ρ1 => wp (c ρ1 t) fun b => b = (p a, t) ∧ (p a = true → wp (e ρ1 t) fun q => q = (ψ a, t))) (k : K ((xs.filter p).map ψ, t)) : wp (lcL gm c e ρ (xs.map φ) t) K := by
  refine wp_of (lcL_filter' xs φ ψ p fun a ha => ?_) k
  obtain ⟨ρ1, e1, b, e2, e3, h4⟩ := h a ha
  rw [e3] at e2
  exact ⟨ρ1, e1, e2, fun hp => wp_eq (h4 hp)⟩
theorem wp_lc {α : Type} {c : BM} {e : EM} (xs : List α) (φ ψ : α → D) {K : List D × Tape → Prop} (h : ∀ a ∈ xs, wp (gm (φ a) ρ) fun ρ1 => wp (c ρ1 t) fun b => b = (true, t) ∧ wp (e ρ1 t) fun q => q = (ψ a, t)) (k : K (xs.map ψ, t)) : wp (lcL gm c e ρ (xs.map φ) t) K := by
  refine wp_lcF xs φ ψ (fun _ => true) (fun a ha => ?_) (by rw [List.filter_eq_self.mpr fun _ _ => rfl]; exact k)
  refine wp_imp (h a ha) fun ρ1 h => wp_imp h fun b h => ⟨h.1, fun _ => h.2⟩
theorem wp_lcR {n : Nat} {c : BM} {e : EM} (φ ψ : Nat → D) {K : List D × Tape → Prop} (h : ∀ i, i < n → wp (gm (φ i) ρ) fun ρ1 => wp (c ρ1 t) fun b => b = (true, t) ∧ wp (e ρ1 t) fun q => q = (ψ i, t)) (k : K ((List.range n).map ψ, t)) : wp (lcL gm c e ρ ((List.range n).map φ) t) K :=
  wp_lc _ φ ψ (fun a ha => h a (List.mem_range.mp ha)) k
/-- with draws -/
theorem wp_lcD {α β : Type} {c : BM} {e : EM} (ψ : β → D) (S : α → β → Prop) (xs : List α) (φ : α → D) {K : List D × Tape → Prop} (ht : TOk t) (h : ∀ a ∈ xs, ∀ t, TOk t → wp (gm (φ a) ρ) fun ρ1 => wp (c ρ1 t) fun b => b = (true, t) ∧ wp (e ρ1 t) fun q => ∃ b, q.1 = ψ b ∧ TOk q.2 ∧ S a b)
    (k : ∀ (bs : List β) (t' : Tape), TOk t' → bs.length = xs.length → (∀ (i : Nat) (a : α) (b : β), xs[i]? = some a → bs[i]? = some b → S a b) → K (bs.map ψ, t')) : wp (lcL gm c e ρ (xs.map φ) t) K := by
  obtain ⟨bs, t', e1, h2, h3, h4⟩ := lcL_draw' (gm := gm) (c := c) (e := e) (ρ := ρ) xs φ ψ S (fun a ha t ht => by
    obtain ⟨ρ1, e1, b, e2, e3, q, e4, b', e5, e6, e7⟩ := h a ha t ht
    rw [e3] at e2
    refine ⟨ρ1, b', q.2, e1, e2, ?_, e6, e7⟩
    rw [e4, ← e5]) t ht
  exact wp_of e1 (k bs t' h2 h3 h4)
theorem wp_lcDs {α β : Type} {c : BM} {e : EM} (ψ : β → D) (S : β → Prop) (xs : List α) (φ : α → D) {K : List D × Tape → Prop} (ht : TOk t) (h : ∀ a ∈ xs, ∀ t, TOk t → wp (gm (φ a) ρ) fun ρ1 => wp (c ρ1 t) fun b => b = (true, t) ∧ wp (e ρ1 t) fun q => ∃ b, q.1 = ψ b ∧ TOk q.2 ∧ S b)
    (k : ∀ (bs : List β) (t' : Tape), TOk t' → bs.length = xs.length → (∀ b ∈ bs, S b) → K (bs.map ψ, t')) : wp (lcL gm c e ρ (xs.map φ) t) K :=
  wp_lcD ψ (fun _ b => S b) xs φ ht h fun bs t' h1 h2 h3 => k bs t' h1 h2 fun b hb => by
    obtain ⟨i, hi, e⟩ := List.mem_iff_getElem.mp hb
    exact h3 i xs[i] b (List.getElem?_eq_getElem (by omega)) (by rw [List.getElem?_eq_getElem hi, e])
theorem wp_draw {m : Int} {K : D × Tape → Prop} (ht : TOk t) (hm : 0 < m) (hs : m < 2 ^ 200) (k : ∀ (i : Int) (t' : Tape), 0 ≤ i → i < m → TOk t' → K (.int i, t')) : wp (F_draw [.tape, .int m] t) K := by
  obtain ⟨i, t', e, h1, h2, h3⟩ := draw_ev ht hm hs
  exact wp_of e (k i t' h1 h2 h3)
end

/-! the same with what follows hidden from simp (it never looks into an instance) -/
class Kt (α : Type) where
  k : α → Prop
class Br where
  t : Prop
  f : Prop
class Pr where
  p : Prop
def wpx {α : Type} (x : Option α) [c : Kt α] : Prop := wp x c.k
def iteX (b : Bool) [c : Br] : Prop := iteK b c.t c.f
def gdX (b : Bool) [c : Pr] : Prop := gdK b c.p
def wVarX (x : Option (Option D)) (t : Tape) [c : Kt (D × Tape)] : Prop := wVar x t c.k
def wBlX (d : D) [c : Kt Bool] : Prop := wBl d c.k
def wIntX (d : D) [c : Kt Int] : Prop := wInt d c.k
def wSlotIX (x : Option (Option D)) [c : Kt Int] : Prop := wSlotI x c.k
def wSlotLX (x : Option (Option D)) [c : Kt (List D)] : Prop := wSlotL x c.k
def wLstX (d : D) [c : Kt (List D)] : Prop := wLst d c.k
def wSlot2X (x : Option D) [c : Kt (List D)] : Prop := wSlot2 x c.k
theorem x_wp {α : Type} {x : Option α} {K : α → Prop} : wp x K = @wpx α x ⟨K⟩ := rfl
theorem x_ite {b : Bool} {A B : Prop} : iteK b A B = @iteX b ⟨A, B⟩ := rfl
theorem x_gd {b : Bool} {A : Prop} : gdK b A = @gdX b ⟨A⟩ := rfl
theorem x_var {x : Option (Option D)} {t : Tape} {K : D × Tape → Prop} : wVar x t K = @wVarX x t ⟨K⟩ := rfl
theorem x_bl {d : D} {K : Bool → Prop} : wBl d K = @wBlX d ⟨K⟩ := rfl
theorem x_int {d : D} {K : Int → Prop} : wInt d K = @wIntX d ⟨K⟩ := rfl
theorem x_slotI {x : Option (Option D)} {K : Int → Prop} : wSlotI x K = @wSlotIX x ⟨K⟩ := rfl
theorem x_slotL {x : Option (Option D)} {K : List D → Prop} : wSlotL x K = @wSlotLX x ⟨K⟩ := rfl
theorem x_lst {d : D} {K : List D → Prop} : wLst d K = @wLstX d ⟨K⟩ := rfl
theorem x_slot2 {x : Option D} {K : List D → Prop} : wSlot2 x K = @wSlot2X x ⟨K⟩ := rfl
theorem x_some {α : Type} {a : α} {c : Kt α} : @wpx α (some a) c = c.k a := wp_some
theorem x_none {α : Type} {c : Kt α} : @wpx α none c = False := wp_none
theorem x_iteT {c : Br} : @iteX true c = c.t := iteK_t
theorem x_iteF {c : Br} : @iteX false c = c.f := iteK_f
theorem x_iteN {b : Bool} {c : Br} : @iteX (!b) c = @iteX b ⟨c.f, c.t⟩ := iteK_not
theorem x_gdT {c : Pr} : @gdX true c = c.p := gdK_t
theorem x_varS {d : D} {t : Tape} {c : Kt (D × Tape)} : @wVarX (some (some d)) t c = c.k (d, t) := rfl
theorem x_blB {b : Bool} {c : Kt Bool} : @wBlX (.bl b) c = c.k b := rfl
theorem x_intI {i : Int} {c : Kt Int} : @wIntX (.int i) c = c.k i := rfl
theorem x_slotII {i : Int} {c : Kt Int} : @wSlotIX (some (some (.int i))) c = c.k i := rfl
theorem x_slotLL {l : List D} {c : Kt (List D)} : @wSlotLX (some (some (.lst l))) c = c.k l := rfl
theorem x_lstL {l : List D} {c : Kt (List D)} : @wLstX (.lst l) c = c.k l := rfl
theorem x_slot2L {l : List D} {c : Kt (List D)} : @wSlot2X (some (.lst l)) c = c.k l := rfl
section
variable {ρ : Env} {t : Tape} {f : D → D → Option D} {h1 : D → Option D} {g : List D → Option D} {ma mb mc : EM} {ba bb : BM} {mr : AM} {n lv i j l : Nat} {fm : FM} {mi : IM} {gm : GM} {sm s1 s2 : SM}
theorem y_var {c : Kt (D × Tape)} : @wpx _ (mVar i ρ t) c = @wVarX ρ[i]? t c := w_var
theorem y_c {d : D} {c : Kt (D × Tape)} : @wpx _ (mC d ρ t) c = c.k (d, t) := w_c
theorem y_op {c : Kt (D × Tape)} : @wpx _ (mOp f ma mb ρ t) c = @wpx _ (ma ρ t) ⟨fun p => @wpx _ (mb ρ p.2) ⟨fun q => @wpx _ (f p.1 q.1) ⟨fun d => c.k (d, q.2)⟩⟩⟩ := w_op
theorem y_un {c : Kt (D × Tape)} : @wpx _ (mUn h1 ma ρ t) c = @wpx _ (ma ρ t) ⟨fun p => @wpx _ (h1 p.1) ⟨fun d => c.k (d, p.2)⟩⟩ := w_un
theorem y_nil {c : Kt (List D × Tape)} : @wpx _ (mNil ρ t) c = c.k ([], t) := w_nil
theorem y_cons {c : Kt (List D × Tape)} : @wpx _ (mCons ma mr ρ t) c = @wpx _ (ma ρ t) ⟨fun p => @wpx _ (mr ρ p.2) ⟨fun q => c.k (p.1 :: q.1, q.2)⟩⟩ := w_cons
theorem y_tup {c : Kt (D × Tape)} : @wpx _ (mTup mr ρ t) c = @wpx _ (mr ρ t) ⟨fun p => @gdX (small p.1) ⟨c.k (.tup p.1, p.2)⟩⟩ := w_tup
theorem y_lst {c : Kt (D × Tape)} : @wpx _ (mLst mr ρ t) c = @wpx _ (mr ρ t) ⟨fun p => @gdX (small p.1) ⟨c.k (.lst p.1, p.2)⟩⟩ := w_lst
theorem y_callB {c : Kt (D × Tape)} : @wpx _ (mCallB g mr ρ t) c = @wpx _ (mr ρ t) ⟨fun p => @wpx _ (g p.1) ⟨fun d => c.k (d, p.2)⟩⟩ := w_callB
theorem y_call {c : Kt (D × Tape)} : @wpx _ (mCall n lv fm mr ρ t) c = @wpx _ (mr ρ t) ⟨fun p => @gdX (p.1.length == n) ⟨@wpx _ (fm p.1 p.2) ⟨fun q => @gdX (plnL lv q.1) ⟨c.k q⟩⟩⟩⟩ := w_call
theorem y_ifE {c : Kt (D × Tape)} : @wpx _ (mIfE ba ma mb ρ t) c = @wpx _ (ba ρ t) ⟨fun p => @iteX p.1 ⟨@wpx _ (ma ρ p.2) c, @wpx _ (mb ρ p.2) c⟩⟩ := w_ifE
theorem y_tst {c : Kt (Bool × Tape)} : @wpx _ (mTst ma ρ t) c = @wpx _ (ma ρ t) ⟨fun p => @wBlX p.1 ⟨fun b => c.k (b, p.2)⟩⟩ := w_tst
theorem y_andV {c : Kt (D × Tape)} : @wpx _ (mAndV ma mb ρ t) c = @wpx _ (ma ρ t) ⟨fun p => @wBlX p.1 ⟨fun b => @iteX b ⟨@wpx _ (mb ρ p.2) c, c.k (.bl false, p.2)⟩⟩⟩ := w_andV
theorem y_orV {c : Kt (D × Tape)} : @wpx _ (mOrV ma mb ρ t) c = @wpx _ (ma ρ t) ⟨fun p => @wBlX p.1 ⟨fun b => @iteX b ⟨c.k (.bl true, p.2), @wpx _ (mb ρ p.2) c⟩⟩⟩ := w_orV
theorem y_notV {c : Kt (D × Tape)} : @wpx _ (mNotV ma ρ t) c = @wpx _ (ma ρ t) ⟨fun p => @wBlX p.1 ⟨fun b => c.k (.bl (!b), p.2)⟩⟩ := w_notV
theorem y_and {c : Kt (Bool × Tape)} : @wpx _ (mAnd ba bb ρ t) c = @wpx _ (ba ρ t) ⟨fun p => @iteX p.1 ⟨@wpx _ (bb ρ p.2) c, c.k (false, p.2)⟩⟩ := w_and
theorem y_or {c : Kt (Bool × Tape)} : @wpx _ (mOr ba bb ρ t) c = @wpx _ (ba ρ t) ⟨fun p => @iteX p.1 ⟨c.k (true, p.2), @wpx _ (bb ρ p.2) c⟩⟩ := w_or
theorem y_not {c : Kt (Bool × Tape)} : @wpx _ (mNot ba ρ t) c = @wpx _ (ba ρ t) ⟨fun p => c.k (!p.1, p.2)⟩ := w_not
theorem y_yes {c : Kt (Bool × Tape)} : @wpx _ (mYes ρ t) c = c.k (true, t) := w_yes
theorem y_noO {c : Kt (Option Int × Tape)} : @wpx _ (mNoO ρ t) c = c.k (none, t) := w_noO
theorem y_O {c : Kt (Option Int × Tape)} : @wpx _ (mO ma ρ t) c = @wpx _ (ma ρ t) ⟨fun p => @wIntX p.1 ⟨fun i => c.k (some i, p.2)⟩⟩ := w_O
theorem y_sl {f : D → Option Int → Option Int → Option D} {ml mh : OM} {c : Kt (D × Tape)} : @wpx _ (mSl f ma ml mh ρ t) c = @wpx _ (ma ρ t) ⟨fun p => @wpx _ (ml ρ p.2) ⟨fun q => @wpx _ (mh ρ q.2) ⟨fun r => @wpx _ (f p.1 q.1 r.1) ⟨fun d => c.k (d, r.2)⟩⟩⟩⟩ := w_sl
theorem y_lc {cc : BM} {e : EM} {vs : List Nat} {c : Kt (D × Tape)} : @wpx _ (mLc mi gm cc e vs ρ t) c = @wpx _ (mi ρ t) ⟨fun p => @wpx _ (lcL gm cc e (wipeE ρ vs) p.1 p.2) ⟨fun q => @gdX (small q.1) ⟨c.k (.lst q.1, q.2)⟩⟩⟩ := w_lc
theorem y_it {c : Kt (List D × Tape)} : @wpx _ (mIt ma ρ t) c = @wpx _ (ma ρ t) ⟨fun p => @wpx _ (dItems p.1) ⟨fun l => c.k (l, p.2)⟩⟩ := w_it
theorem y_iter {f : List D → Option (List D)} {c : Kt (List D × Tape)} : @wpx _ (mIter f mr ρ t) c = @wpx _ (mr ρ t) ⟨fun p => @wpx _ (f p.1) ⟨fun l => c.k (l, p.2)⟩⟩ := w_iter
theorem y_gname {d : D} {c : Kt Env} : @wpx _ (gmName i d ρ) c = c.k (ρ.set i (some d)) := w_gname
theorem y_gtup {ms : GMs} {ds : List D} {c : Kt Env} : @wpx _ (gmTup n ms (.tup ds) ρ) c = @gdX (ds.length == n) ⟨@wpx _ (ms ds ρ) c⟩ := w_gtup
theorem y_gnil {c : Kt Env} : @wpx _ (gmNil [] ρ) c = c.k ρ := w_gnil
theorem y_gcons {ms : GMs} {d : D} {ds : List D} {c : Kt Env} : @wpx _ (gmCons gm ms (d :: ds) ρ) c = @wpx _ (gm d ρ) ⟨fun ρ1 => @wpx _ (ms ds ρ1) c⟩ := w_gcons
theorem y_skip {c : Kt Out} : @wpx _ (mSkip ρ t) c = c.k (.nx ρ t) := w_skip
def seqX (m : SM) (c : Kt Out) : Out → Prop := seqK m c.k
theorem seqX_nx {m : SM} {c : Kt Out} : seqX m c (.nx ρ t) = @wpx _ (m ρ t) c := rfl
theorem seqX_rt {m : SM} {c : Kt Out} {d : D} : seqX m c (.rt d t) = c.k (.rt d t) := rfl
theorem seqX_bk {m : SM} {c : Kt Out} : seqX m c (.bk ρ t) = c.k (.bk ρ t) := rfl
theorem seqX_ct {m : SM} {c : Kt Out} : seqX m c (.ct ρ t) = c.k (.ct ρ t) := rfl
theorem y_seq {c : Kt Out} : @wpx _ (mSeq s1 s2 ρ t) c = @wpx _ (s1 ρ t) ⟨seqX s2 c⟩ := w_seq
theorem y_if {c : Kt Out} : @wpx _ (mIf ba s1 s2 ρ t) c = @wpx _ (ba ρ t) ⟨fun p => @iteX p.1 ⟨@wpx _ (s1 ρ p.2) c, @wpx _ (s2 ρ p.2) c⟩⟩ := w_if
theorem y_ret {c : Kt Out} : @wpx _ (mRet ma ρ t) c = @wpx _ (ma ρ t) ⟨fun p => c.k (.rt p.1 p.2)⟩ := w_ret
theorem y_retN {c : Kt Out} : @wpx _ (mRetN ρ t) c = c.k (.rt .non t) := w_retN
theorem y_break {c : Kt Out} : @wpx _ (mBreak ρ t) c = c.k (.bk ρ t) := w_break
theorem y_cont {c : Kt Out} : @wpx _ (mCont ρ t) c = c.k (.ct ρ t) := w_cont
theorem y_set {c : Kt Out} : @wpx _ (mSet i ma ρ t) c = @wpx _ (ma ρ t) ⟨fun p => c.k (.nx (ρ.set i (some p.1)) p.2)⟩ := w_set
theorem y_asg {c : Kt Out} : @wpx _ (mAsg ma gm ρ t) c = @wpx _ (ma ρ t) ⟨fun p => @wpx _ (gm p.1 ρ) ⟨fun ρ1 => c.k (.nx ρ1 p.2)⟩⟩ := w_asg
theorem y_drop {c : Kt Out} : @wpx _ (mDrop ma ρ t) c = @wpx _ (ma ρ t) ⟨fun p => c.k (.nx ρ p.2)⟩ := w_drop
theorem y_par2 {c : Kt Out} : @wpx _ (mPar2 i j ma mb ρ t) c = @wpx _ (ma ρ t) ⟨fun p => @wpx _ (mb ρ p.2) ⟨fun q => c.k (.nx ((ρ.set i (some p.1)).set j (some q.1)) q.2)⟩⟩ := w_par2
theorem y_par3 {c : Kt Out} : @wpx _ (mPar3 i j l ma mb mc ρ t) c = @wpx _ (ma ρ t) ⟨fun p => @wpx _ (mb ρ p.2) ⟨fun q => @wpx _ (mc ρ q.2) ⟨fun r => c.k (.nx (((ρ.set i (some p.1)).set j (some q.1)).set l (some r.1)) r.2)⟩⟩⟩ := w_par3
theorem y_for {c : Kt Out} : @wpx _ (mFor mi gm sm ρ t) c = @wpx _ (mi ρ t) ⟨fun p => @wpx _ (forL gm sm p.1 ρ p.2) c⟩ := w_for
theorem y_while {fu : Env → Tape → Nat} {c : Kt Out} : @wpx _ (mWhile fu ba sm ρ t) c = @wpx _ (whileN ba sm (fu ρ t) ρ t) c := rfl
theorem y_aug {f : Int → Int → Int} {c : Kt Out} : @wpx _ (mAug i f ma ρ t) c = @wSlotIX ρ[i]? ⟨fun a => @wpx _ (ma ρ t) ⟨fun p => @wIntX p.1 ⟨fun b => c.k (.nx (ρ.set i (some (.int (f a b)))) p.2)⟩⟩⟩ := w_aug
theorem y_app {c : Kt Out} : @wpx _ (mApp i ma ρ t) c = @wSlotLX ρ[i]? ⟨fun l => @wpx _ (ma ρ t) ⟨fun p => @gdX (small l) ⟨c.k (.nx (ρ.set i (some (.lst (l ++ [p.1])))) p.2)⟩⟩⟩ := w_app
theorem y_ext {c : Kt Out} : @wpx _ (mExt i ma ρ t) c = @wSlotLX ρ[i]? ⟨fun l => @wpx _ (ma ρ t) ⟨fun p => @wLstX p.1 ⟨fun r => @gdX (small (l ++ r)) ⟨c.k (.nx (ρ.set i (some (.lst (l ++ r)))) p.2)⟩⟩⟩⟩ := w_ext
theorem y_setI {c : Kt Out} : @wpx _ (mSetI i ma mb ρ t) c = @wpx _ (mb ρ t) ⟨fun p => @wpx _ (ma ρ p.2) ⟨fun q => @wSlotLX ρ[i]? ⟨fun l => @wIntX q.1 ⟨fun j => @wpx _ (ixN l.length j) ⟨fun z => c.k (.nx (ρ.set i (some (.lst (l.set z p.1)))) q.2)⟩⟩⟩⟩⟩ := w_setI
theorem y_setI2 {c : Kt Out} : @wpx _ (mSetI2 i ma mb mc ρ t) c = @wpx _ (mc ρ t) ⟨fun p => @wpx _ (ma ρ p.2) ⟨fun q => @wpx _ (mb ρ q.2) ⟨fun r => @wSlotLX ρ[i]? ⟨fun l => @wIntX q.1 ⟨fun j => @wIntX r.1 ⟨fun k => @wpx _ (ixN l.length j) ⟨fun a => @wSlot2X l[a]? ⟨fun m => @wpx _ (ixN m.length k) ⟨fun b => c.k (.nx (ρ.set i (some (.lst (l.set a (.lst (m.set b p.1)))))) r.2)⟩⟩⟩⟩⟩⟩⟩⟩⟩ := w_setI2
def fnX (lv : Nat) (c : Kt (D × Tape)) : Out → Prop := fnK lv c.k
theorem fnX_rt {c : Kt (D × Tape)} {d : D} : fnX lv c (.rt d t) = c.k (d, t) := rfl
theorem fnX_nx {c : Kt (D × Tape)} : fnX lv c (.nx ρ t) = @gdX (lv == 0) ⟨c.k (.non, t)⟩ := rfl
theorem y_fn {N : Nat} {ds : List D} {c : Kt (D × Tape)} : @wpx _ (fnM N lv sm ds t) c = @wpx _ (sm (ds.map some ++ List.replicate (N - ds.length) none) t) ⟨fnX lv c⟩ := w_fn
theorem y_forN {c : Kt Out} : @wpx _ (forL gm sm [] ρ t) c = c.k (.nx ρ t) := w_forN
end
end FL
local macro_rules
  | `(tactic| dsimp! [$ls,*]) => `(tactic| simp only [FL.wp_some, FL.wp_none, FL.wVar_some, FL.w_var, FL.w_c, FL.w_op, FL.w_un, FL.w_nil, FL.w_cons, FL.w_tup, FL.w_lst, FL.w_callB, FL.w_call, FL.w_ifE, FL.w_tst, FL.wBl_bl, FL.w_andV, FL.w_orV, FL.w_notV, FL.w_and, FL.w_or, FL.w_not, FL.w_yes, FL.w_noO, FL.w_O, FL.wInt_int, FL.w_sl, FL.w_lc, FL.w_it, FL.w_iter,
  FL.w_gname, FL.w_gtup, FL.w_gnil, FL.w_gcons, FL.w_skip, FL.seqK_nx, FL.seqK_rt, FL.seqK_bk, FL.seqK_ct, FL.w_seq, FL.w_if, FL.w_ret, FL.w_retN, FL.w_break, FL.w_cont, FL.w_set, FL.w_asg, FL.w_drop, FL.w_par2, FL.w_par3, FL.w_for, FL.w_while, FL.wSlotI_int, FL.wSlotL_lst, FL.wLst_lst, FL.wSlot2_lst, FL.w_aug, FL.w_app, FL.w_ext, FL.w_setI, FL.w_setI2, FL.fnK_rt, FL.fnK_nx, FL.w_fn, FL.loopK_nx, FL.loopK_ct, FL.loopK_bk, FL.loopK_rt,
  FL.iteK_t, FL.iteK_f, FL.gdK_t, FL.wipeE, FL.dItems_tup, FL.dItems_lst, FL.gAbs_int, FL.gInt_int, FL.gLen_tup, FL.gLen_lst, FL.gTuple_tup, FL.gTuple_lst, FL.gList_tup, FL.gList_lst,
  FL.isi_int_non, FL.isi_int_bl, FL.isi_int_int, FL.isi_int_str, FL.isi_int_tup, FL.isi_int_lst, FL.isi_bool_non, FL.isi_bool_bl, FL.isi_bool_int, FL.isi_bool_str, FL.isi_bool_tup, FL.isi_bool_lst,
  FL.isi_tuple_non, FL.isi_tuple_bl, FL.isi_tuple_int, FL.isi_tuple_str, FL.isi_tuple_tup, FL.isi_tuple_lst, FL.isi_str_non, FL.isi_str_bl, FL.isi_str_int, FL.isi_str_str, FL.isi_str_tup, FL.isi_str_lst,
  FL.oAdd_int, FL.oSub_int, FL.oLt_int, FL.oLe_int, FL.oGt_int, FL.oGe_int, FL.oNeg_int, FL.oEq_int, FL.oNe_int, FL.oIs_non, FL.oIsNot_non, FL.isN_non, FL.isN_int, FL.isN_bl, FL.isN_str, FL.isN_tup, FL.isN_lst, FL.oIx_tup0, FL.oIx_tup1, FL.plnL, FL.pln, FL.dep,
  List.map_cons, List.map_nil, List.length_cons, List.length_nil, List.cons_append, List.nil_append, List.replicate, List.getElem?_cons_zero, List.getElem?_cons_succ, List.set_cons_zero, List.set_cons_succ, Nat.reduceAdd, Nat.reduceSub, Nat.zero_add, Nat.sub_self, Nat.add_sub_cancel, Nat.succ_sub_succ, Nat.sub_zero, Nat.reduceBEq, BEq.rfl,
  if_true, if_false, Bool.not_true, Bool.not_false, Bool.not_not, Bool.false_eq_true, Bool.true_and, Bool.and_true, decide_true, decide_false, List.all_cons, List.all_nil, Bool.and_self, Nat.reduceLeDiff, Nat.reduceEqDiff, Nat.reduceLT, Int.reduceLT, Int.reduceLE, Int.reduceEq, Int.reduceAdd, Int.reduceSub, Int.reduceMul, Int.reduceNeg, Int.cast_ofNat_Int, Int.natCast_zero, Int.natCast_one, id_eq, reduceCtorEq, FL.bls, FL.small, FL.sml_of, List.length_map, List.length_range, true_and, and_true, $ls,*])
local macro_rules
  | `(tactic| simp_all! [$ls,*]) => `(tactic| (simp only [FL.x_wp, FL.x_ite, FL.x_gd, FL.x_var, FL.x_bl, FL.x_int, FL.x_slotI, FL.x_slotL, FL.x_lst, FL.x_slot2, FL.x_some, FL.x_none, FL.x_iteT, FL.x_iteF, FL.x_iteN, FL.x_gdT, FL.x_varS, FL.x_blB, FL.x_intI, FL.x_slotII, FL.x_slotLL, FL.x_lstL, FL.x_slot2L, FL.y_var, FL.y_c, FL.y_op, FL.y_un, FL.y_nil, FL.y_cons, FL.y_tup, FL.y_lst, FL.y_callB, FL.y_call, FL.y_ifE, FL.y_tst, FL.y_andV, FL.y_orV, FL.y_notV, FL.y_and, FL.y_or, FL.y_not, FL.y_yes, FL.y_noO, FL.y_O, FL.y_sl, FL.y_lc, FL.y_it, FL.y_iter, FL.y_gname, FL.y_gtup, FL.y_gnil, FL.y_gcons, FL.y_skip, FL.y_seq, FL.y_if, FL.y_ret, FL.y_retN, FL.y_break, FL.y_cont, FL.y_set, FL.y_asg, FL.y_drop, FL.y_par2, FL.y_par3, FL.y_for, FL.y_while, FL.y_aug, FL.y_app, FL.y_ext, FL.y_setI, FL.y_setI2, FL.y_fn, FL.y_forN, FL.seqX_nx, FL.seqX_rt, FL.seqX_bk, FL.seqX_ct, FL.fnX_rt, FL.fnX_nx, FL.seqK_nx, FL.seqK_rt, FL.seqK_bk, FL.seqK_ct, FL.fnK_rt, FL.fnK_nx, FL.loopK_nx, FL.loopK_ct, FL.loopK_bk, FL.loopK_rt, FL.wipeE, FL.dItems_tup, FL.dItems_lst, FL.gAbs_int, FL.gInt_int, FL.gLen_tup, FL.gLen_lst, FL.gTuple_tup, FL.gTuple_lst, FL.gList_tup, FL.gList_lst,
  FL.isi_int_non, FL.isi_int_bl, FL.isi_int_int, FL.isi_int_str, FL.isi_int_tup, FL.isi_int_lst, FL.isi_bool_non, FL.isi_bool_bl, FL.isi_bool_int, FL.isi_bool_str, FL.isi_bool_tup, FL.isi_bool_lst,
  FL.isi_tuple_non, FL.isi_tuple_bl, FL.isi_tuple_int, FL.isi_tuple_str, FL.isi_tuple_tup, FL.isi_tuple_lst, FL.isi_str_non, FL.isi_str_bl, FL.isi_str_int, FL.isi_str_str, FL.isi_str_tup, FL.isi_str_lst,
  FL.oAdd_int, FL.oSub_int, FL.oLt_int, FL.oLe_int, FL.oGt_int, FL.oGe_int, FL.oNeg_int, FL.oEq_int, FL.oNe_int, FL.oIs_non, FL.oIsNot_non, FL.isN_non, FL.isN_int, FL.isN_bl, FL.isN_str, FL.isN_tup, FL.isN_lst, FL.oIx_tup0, FL.oIx_tup1, FL.plnL, FL.pln, FL.dep,
  List.map_cons, List.map_nil, List.length_cons, List.length_nil, List.cons_append, List.nil_append, List.replicate, List.getElem?_cons_zero, List.getElem?_cons_succ, List.set_cons_zero, List.set_cons_succ, Nat.reduceAdd, Nat.reduceSub, Nat.zero_add, Nat.sub_self, Nat.add_sub_cancel, Nat.succ_sub_succ, Nat.sub_zero, Nat.reduceBEq, BEq.rfl,
  if_true, if_false, Bool.not_true, Bool.not_false, Bool.not_not, Bool.false_eq_true, Bool.true_and, Bool.and_true, decide_true, decide_false, List.all_cons, List.all_nil, Bool.and_self, Nat.reduceLeDiff, Nat.reduceEqDiff, Nat.reduceLT, Int.reduceLT, Int.reduceLE, Int.reduceEq, Int.reduceAdd, Int.reduceSub, Int.reduceMul, Int.reduceNeg, Int.cast_ofNat_Int, Int.natCast_zero, Int.natCast_one, id_eq, reduceCtorEq, FL.bls, FL.small, FL.sml_of, List.length_map, List.length_range, true_and, and_true, $ls,*]; first | done | (show FL.wp _ _) | (show FL.iteK _ _ _) | (show FL.gdK _ _) | skip))
set_option maxRecDepth 100000
set_option maxHeartbeats 400000
noncomputable section
namespace FL
open PySem PySem.Spec PyProof.Rows L2 FL
section
variable {ρ : Env} {t : Tape} {ma mb : EM} {mx : EMX} {i : Nat} {fm : FM} {f : Int → Int → Int}
theorem y_dropX {c : Kt Out} : @wpx _ (mDropX mx ρ t) c = @wpx _ (mx ρ t) ⟨fun p => c.k (.nx p.2.1 p.2.2)⟩ := by
  show wp (mDropX mx ρ t) c.k = wp (mx ρ t) _
  unfold mDropX; simp only [wp_map]
theorem y_pop {c : Kt (D × Env × Tape)} : @wpx _ (mPop i ρ t) c = @wSlotLX ρ[i]? ⟨fun l => @wpx _ (l[l.length - 1]?) ⟨fun d => c.k (d, ρ.set i (some (.lst l.dropLast)), t)⟩⟩ := by
  show wp (mPop i ρ t) c.k = wSlotL ρ[i]? fun l => wp (l[l.length - 1]?) fun d => c.k (d, ρ.set i (some (.lst l.dropLast)), t)
  unfold mPop
  cases e : ρ[i]? with
  | none => exact wp_none
  | some x =>
    cases x with
    | none => exact wp_none
    | some d => cases d <;> simp only [wp_none, wSlotL, wp_map]
theorem y_pop0 {c : Kt (D × Env × Tape)} : @wpx _ (mPopAt i (mC (.int 0)) ρ t) c = @wSlotLX ρ[i]? ⟨fun l => @gdX (small l) ⟨@wpx _ (l[0]?) ⟨fun d => c.k (d, ρ.set i (some (.lst l.tail)), t)⟩⟩⟩ := by
  show wp (mPopAt i (mC (.int 0)) ρ t) c.k = wSlotL ρ[i]? fun l => gdK (small l) (wp (l[0]?) fun d => c.k (d, ρ.set i (some (.lst l.tail)), t))
  unfold mPopAt mC
  simp only [wp_bind, wp_some]
  cases e : ρ[i]? with
  | none => exact wp_none
  | some x =>
    cases x with
    | none => exact wp_none
    | some d =>
      cases d <;> simp only [wp_none, wSlotL, w_gd]
      rename_i l
      cases l with
      | nil =>
        have : ixN ([] : List D).length 0 = none := by unfold ixN; simp
        rw [this]
        show gdK _ (wp none _) = gdK _ (wp none _)
        rw [wp_none, wp_none]
      | cons x l =>
        have : ixN (x :: l).length 0 = some 0 := ixN0
        rw [this, wp_bind, wp_some, wp_map]; rfl
theorem y_callX {c : Kt (D × Env × Tape)} : @wpx _ (mCallX fm ma mx ρ t) c = @wpx _ (ma ρ t) ⟨fun p => @wpx _ (mx ρ p.2) ⟨fun q => @wpx _ (fm [p.1, q.1] q.2.2) ⟨fun r => @gdX (plnL 0 r.1) ⟨c.k (r.1, q.2.1, r.2)⟩⟩⟩⟩ := by
  show wp (mCallX fm ma mx ρ t) c.k = wp (ma ρ t) fun p => wp (mx ρ p.2) fun q => wp (fm [p.1, q.1] q.2.2) fun r => gdK (plnL 0 r.1) (c.k (r.1, q.2.1, r.2))
  unfold mCallX; simp only [wp_bind, w_gd, wp_some]
theorem y_appX {c : Kt Out} : @wpx _ (mAppX i mx ρ t) c = @wSlotLX ρ[i]? ⟨fun _ => @wpx _ (mx ρ t) ⟨fun p => @wSlotLX p.2.1[i]? ⟨fun l => @gdX (small l) ⟨c.k (.nx (p.2.1.set i (some (.lst (l ++ [p.1])))) p.2.2)⟩⟩⟩⟩ := by
  show wp (mAppX i mx ρ t) c.k = wSlotL ρ[i]? fun _ => wp (mx ρ t) fun p => wSlotL p.2.1[i]? fun l => gdK (small l) (c.k (.nx (p.2.1.set i (some (.lst (l ++ [p.1])))) p.2.2))
  unfold mAppX
  cases e : ρ[i]? with
  | none => exact wp_none
  | some x =>
    cases x with
    | none => exact wp_none
    | some d =>
      cases d <;> simp only [wp_none, wSlotL, wp_bind]
      congr 1; funext p
      cases e : p.2.1[i]? with
      | none => exact wp_none
      | some x =>
        cases x with
        | none => exact wp_none
        | some d => cases d <;> simp only [wp_none, wSlotL, wp_bind, w_gd, wp_some]
theorem y_augI {c : Kt Out} : @wpx _ (mAugI i f ma mb ρ t) c = @wpx _ (ma ρ t) ⟨fun p => @wSlotLX ρ[i]? ⟨fun l => @wIntX p.1 ⟨fun j => @wpx _ (ixN l.length j) ⟨fun z => @wpx _ (l[z]?) ⟨fun d => @wIntX d ⟨fun a => @wpx _ (mb ρ p.2) ⟨fun q => @wIntX q.1 ⟨fun b => c.k (.nx (ρ.set i (some (.lst (l.set z (.int (f a b)))))) q.2)⟩⟩⟩⟩⟩⟩⟩⟩ := by
  show wp (mAugI i f ma mb ρ t) c.k = wp (ma ρ t) fun p => wSlotL ρ[i]? fun l => wInt p.1 fun j => wp (ixN l.length j) fun z => wp (l[z]?) fun d => wInt d fun a => wp (mb ρ p.2) fun q => wInt q.1 fun b => c.k (.nx (ρ.set i (some (.lst (l.set z (.int (f a b)))))) q.2)
  unfold mAugI
  simp only [wp_bind]
  congr 1; funext p
  cases e : ρ[i]? with
  | none => exact wp_none
  | some x =>
    cases x with
    | none => exact wp_none
    | some d =>
      cases d <;> cases p.1 <;> simp only [wp_none, wSlotL, wInt, wp_bind]
      congr 1; funext z
      rename_i l j
      cases e2 : l[z]? with
      | none => exact (wp_none).trans wp_none.symm
      | some y =>
        rw [wp_some]
        cases y <;> simp only [wp_none, wInt, wp_bind]
        congr 1; funext q
        cases q.1 <;> simp only [wp_some, wp_none, wInt]
end
end FL
set_option maxRecDepth 100000
set_option maxHeartbeats 400000
noncomputable section
namespace FL.L
open PySem PySem.Spec PyProof.Rows L2 FL
/-! greatest sums along ways -/
def lolD (n m : Nat) (f : Nat → Nat → Option Rat) : D := .lst ((List.range n).map fun i => .lst ((List.range m).map fun j => vD (f i j)))
theorem range_congr {n : Nat} {f g : Nat → D} (h : ∀ i, i < n → f i = g i) : (List.range n).map f = (List.range n).map g := List.map_congr_left fun i hi => h i (List.mem_range.mp hi)
theorem rowD_congr {m : Nat} {f g : Nat → Option Rat} (h : ∀ j, j < m → f j = g j) : rowD m f = rowD m g := congrArg D.tup (range_congr fun j hj => by rw [h j hj])
theorem tabD_congr {n m : Nat} {f g : Nat → Nat → Option Rat} (h : ∀ i j, i < n → j < m → f i j = g i j) : tabD n m f = tabD n m g := congrArg D.tup (range_congr fun i hi => rowD_congr fun j hj => h i j hi hj)
theorem lolD_congr {n m : Nat} {f g : Nat → Nat → Option Rat} (h : ∀ i j, i < n → j < m → f i j = g i j) : lolD n m f = lolD n m g := congrArg D.lst (range_congr fun i hi => congrArg D.lst (range_congr fun j hj => by rw [h i j hi hj]))
theorem ix_lol {n : Nat} (m : Nat) (f : Nat → Nat → Option Rat) {i : Nat} (h : i < n) : oIx (lolD n m f) (.int i) = some (.lst ((List.range m).map fun j => vD (f i j))) := oIx_lst (by omega) (by rw [Int.toNat_natCast, range_at _ h])
theorem ix_lrow {m : Nat} (f : Nat → Option Rat) {j : Nat} (h : j < m) : oIx (.lst ((List.range m).map fun j => vD (f j))) (.int j) = some (vD (f j)) := oIx_lst (by omega) (by rw [Int.toNat_natCast, range_at _ h])
theorem items_lol (n m : Nat) (f : Nat → Nat → Option Rat) : dItems (lolD n m f) = some ((List.range n).map fun i => .lst ((List.range m).map fun j => vD (f i j))) := rfl
theorem wSlotL_lol {n m : Nat} {f : Nat → Nat → Option Rat} {K : List D → Prop} : wSlotL (some (some (lolD n m f))) K = K ((List.range n).map fun i => .lst ((List.range m).map fun j => vD (f i j))) := rfl
def fwStep (m : Nat) (F : Nat → Nat → Option Rat) : Nat → Nat → Option Rat := fun i j => vmax (F i j) (vplus (F i m) (F m j))
def fw (f : Nat → Nat → Option Rat) : Nat → Nat → Nat → Option Rat
  | 0 => f
  | m + 1 => fwStep m (fw f m)
/-- x is at least f x -/
def Sub (n : Nat) (f : Nat → Nat → Option Rat) (x : Nat → Option Rat) : Prop := ∀ i j, i < n → j < n → vle (vplus (f i j) (x j)) (x i)
theorem vplus_none1 (a : Option Rat) : vplus none a = none := by cases a <;> rfl
theorem vplus_none2 (a : Option Rat) : vplus a none = none := by cases a <;> rfl
theorem vplus_assoc (a b c : Option Rat) : vplus (vplus a b) c = vplus a (vplus b c) := by
  cases a <;> cases b <;> cases c <;> try rfl
  show some _ = some _
  rw [Rat.add_assoc]
theorem vplus_comm (a b : Option Rat) : vplus a b = vplus b a := by
  cases a <;> cases b <;> try rfl
  show some _ = some _
  rw [Rat.add_comm]
theorem vplus_zero (a : Option Rat) : vplus a (some 0) = a := by
  cases a with
  | none => rfl
  | some a => show some (a + 0) = _; rw [Rat.add_zero]
theorem vplus_zero1 (a : Option Rat) : vplus (some 0) a = a := by rw [vplus_comm, vplus_zero]
theorem vmax_le {a b c : Option Rat} (h1 : vle a c) (h2 : vle b c) : vle (vmax a b) c := by
  rcases vmax_or a b with e | e <;> rw [e]
  · exact h1
  · exact h2
theorem vmax_eq1 {a b : Option Rat} (h : vle b a) : vmax a b = a := vle_antisymm (vmax_le (vle_refl a) h) (vle_max1 a b)
theorem vmax_eq2 {a b : Option Rat} (h : vle a b) : vmax a b = b := vle_antisymm (vmax_le h (vle_refl b)) (vle_max2 a b)
theorem vplus_max (a b c : Option Rat) : vplus (vmax a b) c = vmax (vplus a c) (vplus b c) := by
  refine vle_antisymm ?_ (vmax_le (vplus_mono (vle_max1 a b) (vle_refl c)) (vplus_mono (vle_max2 a b) (vle_refl c)))
  rcases vmax_or a b with e | e <;> rw [e]
  · exact vle_max1 _ _
  · exact vle_max2 _ _
theorem vplus_max2 (a b c : Option Rat) : vplus c (vmax a b) = vmax (vplus c a) (vplus c b) := by
  rw [vplus_comm, vplus_max, vplus_comm a, vplus_comm b]
theorem fwStep_sub {n m : Nat} {F : Nat → Nat → Option Rat} {x : Nat → Option Rat} (hm : m < n) (h : Sub n F x) : Sub n (fwStep m F) x := fun i j hi hj => by
  unfold fwStep
  rw [vplus_max]
  refine vmax_le (h i j hi hj) ?_
  rw [vplus_assoc]
  exact vle_trans (vplus_mono (vle_refl _) (h m j hm hj)) (h i m hi hm)
theorem fw_sub {n : Nat} {f : Nat → Nat → Option Rat} {x : Nat → Option Rat} (h : Sub n f x) : ∀ m, m ≤ n → Sub n (fw f m) x
  | 0, _ => h
  | m + 1, hm => fwStep_sub (by omega) (fw_sub h m (by omega))
theorem fw_ge (f : Nat → Nat → Option Rat) (i j : Nat) : ∀ m, vle (f i j) (fw f m i j)
  | 0 => vle_refl _
  | m + 1 => vle_trans (fw_ge f i j m) (vle_max1 _ _)
theorem fw_vb {d N : Nat} (hd : d ≠ 0) {f : Nat → Nat → Option Rat} (hf : ∀ i j, VB d N (f i j)) : ∀ m i j, VB d (N * 2 ^ m) (fw f m i j)
  | 0, i, j => by rw [Nat.pow_zero, Nat.mul_one]; exact hf i j
  | m + 1, i, j => by
    have e : N * 2 ^ (m + 1) = N * 2 ^ m + N * 2 ^ m := by rw [Nat.pow_succ, ← Nat.mul_assoc]; omega
    rw [e]
    exact VB.max ((fw_vb hd hf m i j).mono (by omega)) (VB.plus hd (fw_vb hd hf m i m) (fw_vb hd hf m m j))
theorem sub_diag {n : Nat} {F : Nat → Nat → Option Rat} {h : Nat → Rat} (hs : Sub n F fun i => some (h i)) {i : Nat} (hi : i < n) : vle (F i i) (some 0) := by
  have := hs i i hi hi
  cases e : F i i with
  | none => trivial
  | some q =>
    rw [e] at this
    have h2 : q + h i ≤ h i := this
    show q ≤ 0
    grind
/-- ways go on with one another through what has been in the middle -/
theorem fw_trans {n : Nat} {f : Nat → Nat → Option Rat} {h : Nat → Rat} (hs : Sub n f fun i => some (h i)) : ∀ m, m ≤ n → ∀ k, k < m → ∀ i j, i < n → j < n → vle (vplus (fw f m i k) (fw f m k j)) (fw f m i j)
  | 0, _ => fun k hk => absurd hk (Nat.not_lt_zero k)
  | m + 1, hm => fun k hk i j hi hj => by
    have ih := fw_trans hs m (by omega)
    have hmm : vle (fw f m m m) (some 0) := sub_diag (fw_sub hs m (by omega)) (by omega)
    show vle (vplus (fwStep m (fw f m) i k) (fwStep m (fw f m) k j)) (fwStep m (fw f m) i j)
    generalize fw f m = F at *
    have drop : ∀ a b : Option Rat, vle (vplus a (vplus (F m m) b)) (vplus a b) := fun a b => vplus_mono (vle_refl a) (by
      have := vplus_mono hmm (vle_refl b)
      rwa [vplus_zero1] at this)
    have up2 : vle (vplus (F i m) (F m j)) (fwStep m F i j) := vle_max2 _ _
    have up1 : vle (F i j) (fwStep m F i j) := vle_max1 _ _
    by_cases e : k = m
    · subst e
      have e1 : fwStep k F i k = F i k := vmax_eq1 (by
        have := vplus_mono (vle_refl (F i k)) hmm
        rwa [vplus_zero] at this)
      have e2 : fwStep k F k j = F k j := vmax_eq1 (by
        have := vplus_mono hmm (vle_refl (F k j))
        rwa [vplus_zero1] at this)
      rw [e1, e2]; exact up2
    · have hk' : k < m := by omega
      show vle (vplus (vmax (F i k) (vplus (F i m) (F m k))) (vmax (F k j) (vplus (F k m) (F m j)))) _
      rw [vplus_max, vplus_max2, vplus_max2]
      refine vmax_le (vmax_le ?_ ?_) (vmax_le ?_ ?_)
      · exact vle_trans (ih k hk' i j hi hj) up1
      · rw [← vplus_assoc]
        exact vle_trans (vplus_mono (ih k hk' i m hi (by omega)) (vle_refl _)) up2
      · rw [vplus_assoc]
        exact vle_trans (vplus_mono (vle_refl _) (ih k hk' m j (by omega) hj)) up2
      · rw [vplus_assoc, ← vplus_assoc (F m k)]
        refine vle_trans (vplus_mono (vle_refl _) (vplus_mono (ih k hk' m m (by omega) (by omega)) (vle_refl _))) ?_
        exact vle_trans (drop _ _) up2
/-- in place: what is done by now -/
def mixF (m : Nat) (F : Nat → Nat → Option Rat) (i j : Nat) : Nat → Nat → Option Rat := fun a b => if a < i ∨ (a = i ∧ b < j) then fwStep m F a b else F a b
theorem mix_row {m : Nat} {F : Nat → Nat → Option Rat} (hmm : vle (F m m) (some 0)) (i j b : Nat) : mixF m F i j m b = F m b := by
  unfold mixF
  split
  · exact vmax_eq1 (by
      have := vplus_mono hmm (vle_refl (F m b))
      rwa [vplus_zero1] at this)
  · rfl
theorem mix_col {m : Nat} {F : Nat → Nat → Option Rat} (hmm : vle (F m m) (some 0)) (i j a : Nat) : mixF m F i j a m = F a m := by
  unfold mixF
  split
  · exact vmax_eq1 (by
      have := vplus_mono (vle_refl (F a m)) hmm
      rwa [vplus_zero] at this)
  · rfl
theorem bls_map_false {α : Type} (l : List α) : bls (l.map fun _ => D.bl false) = some (l.map fun _ => false) := by
  have := bls_map (l.map fun _ => false)
  rwa [List.map_map] at this
theorem ixN_nat {n i : Nat} (h : i < n) : ixN n (i : Int) = some i := by rw [ixN_of (by omega) (by omega), Int.toNat_natCast]
theorem ways_ev (n : Nat) (f : Nat → Nat → Option Rat) (t : Tape) (hn : 0 < n) (hn2 : n ≤ 30) {d N : Nat} (hd : 0 < d) (hd2 : d < 2 ^ 200) (hN : N < 2 ^ 100) (hf : ∀ i j, VB d N (f i j)) {h : Nat → Rat} (hs : Sub n f fun i => some (h i)) :
    F_tables_ways [tabD n n f] t = some (tabD n n (fw f n), t) := by
  have hr := range1 (n := n) (by omega)
  have hn3 : n ≤ 100000 := by omega
  have big : ∀ m, m ≤ n + 1 → N * 2 ^ m < 2 ^ 200 := fun m hm => by
    have h1 : N * 2 ^ m ≤ N * 2 ^ 31 := Nat.mul_le_mul_left _ (Nat.pow_le_pow_right (by decide) (by omega))
    have h2 : N * 2 ^ 31 < 2 ^ 100 * 2 ^ 31 := Nat.mul_lt_mul_of_pos_right hN (by decide)
    exact Nat.lt_of_le_of_lt h1 (Nat.lt_of_lt_of_le h2 (by rw [← Nat.pow_add]; exact two_pow_le (by decide)))
  have vb : ∀ m, m ≤ n + 1 → ∀ i j, V0 (fw f m i j) := fun m hm i j => (fw_vb (by omega) hf m i j).v0 hd hd2 (big m hm)
  have vbp : ∀ m, m ≤ n → ∀ i k j, V0 (vplus (fw f m i k) (fw f m k j)) := fun m hm i k j => by
    refine VB.v0 (d := d) (N := N * 2 ^ (m + 1)) ?_ hd hd2 (big (m + 1) (by omega))
    have e : N * 2 ^ (m + 1) = N * 2 ^ m + N * 2 ^ m := by rw [Nat.pow_succ, ← Nat.mul_assoc]; omega
    rw [e]
    exact VB.plus (by omega) (fw_vb (by omega) hf m i k) (fw_vb (by omega) hf m k j)
  have z0 : d_ratios_ZERO = vD (some 0) := rfl
  have V00 : V0 (some 0) := V0.some (Bd.r0 (d := 1) (N := 0) Bd.zero (by decide) (by decide) (by decide))
  have diag : ∀ m, m ≤ n → ∀ i, i < n → vless (some 0) (fw f m i i) = false := fun m hm i hi => vless_false.mpr (sub_diag (fw_sub hs m hm) hi)
  refine wp_eq ?_
  dsimp! [F_tables_ways, m_tables_ways, check_square_ev n f t hn hn2, gLen_tab, items_tab]
  refine wp_lcR _ (fun i => .lst ((List.range n).map fun j => vD (f i j))) (fun i hi => ?_) ?_
  · dsimp! [show gList [rowD n (f i)] = some (.lst ((List.range n).map fun j => vD (f i j))) from rfl]
  dsimp! [hn3, hr]
  refine wp_forR _ (fun m ρ t' => t' = t ∧ ∃ x3 x4 x5, ρ = [some (tabD n n f), some (.int n), some (lolD n n (fw f m)), x3, x4, x5, none, none]) ⟨rfl, _, _, _, rfl⟩ (fun m ρ t' hm ⟨ht, x3, x4, x5, hρ⟩ => ?_) (fun ρ t' ⟨ht, x3, x4, x5, hρ⟩ => ?_)
  · subst ht hρ
    have hmm : vle (fw f m m m) (some 0) := sub_diag (fw_sub hs m (by omega)) hm
    dsimp! [ix_lol n (fw f m) hm, ix_lrow (fw f m m) hm, z0, is_less_ev V00 (vb m (by omega) m m), diag m (by omega) m hm, hr]
    have e0 : lolD n n (mixF m (fw f m) 0 0) = lolD n n (fw f m) := lolD_congr fun a b _ _ => by unfold mixF; rw [if_neg (by omega)]
    refine wp_forR _ (fun i ρ t2 => t2 = t' ∧ ∃ x4 x5, ρ = [some (tabD n n f), some (.int n), some (lolD n n (mixF m (fw f m) i 0)), some (.int m), x4, x5, none, none]) ⟨rfl, x4, x5, by rw [e0]⟩ (fun i ρ t2 hi ⟨ht, x4, x5, hρ⟩ => ?_) (fun ρ t2 ⟨ht, x4, x5, hρ⟩ => ?_)
    · subst ht hρ
      dsimp! [hr]
      refine wp_forR _ (fun j ρ t3 => t3 = t2 ∧ ∃ x5, ρ = [some (tabD n n f), some (.int n), some (lolD n n (mixF m (fw f m) i j)), some (.int m), some (.int i), x5, none, none]) ⟨rfl, x5, rfl⟩ (fun j ρ t3 hj ⟨ht, x5, hρ⟩ => ?_) (fun ρ t3 ⟨ht, x5, hρ⟩ => ?_)
      · subst ht hρ
        have e1 : mixF m (fw f m) i j i j = fw f m i j := by unfold mixF; rw [if_neg (by omega)]
        have e2 : (D.lst ((List.range n).map fun a => if a = i then .lst ((List.range n).map fun b => if b = j then vD (vmax (fw f m i j) (vplus (fw f m i m) (fw f m m j))) else vD (mixF m (fw f m) i j i b)) else .lst ((List.range n).map fun b => vD (mixF m (fw f m) i j a b)))) = lolD n n (mixF m (fw f m) i (j + 1)) := by
          refine congrArg D.lst (range_congr fun a ha => ?_)
          by_cases e : a = i
          · subst e
            rw [if_pos rfl]
            refine congrArg D.lst (range_congr fun b hb => ?_)
            by_cases e : b = j
            · subst e
              rw [if_pos rfl]
              unfold mixF
              rw [if_pos (by omega)]; rfl
            · rw [if_neg e]
              unfold mixF
              by_cases c : b < j
              · rw [if_pos (by omega), if_pos (by omega)]
              · rw [if_neg (by omega), if_neg (by omega)]
          · rw [if_neg e]
            refine congrArg D.lst (range_congr fun b hb => ?_)
            unfold mixF
            by_cases c : a < i
            · rw [if_pos (by omega), if_pos (by omega)]
            · rw [if_neg (by omega), if_neg (by omega)]
        dsimp! [ix_lol n (mixF m (fw f m) i j) hi, ix_lol n (mixF m (fw f m) i j) hm, ix_lrow (mixF m (fw f m) i j i) hj, ix_lrow (mixF m (fw f m) i j i) hm, ix_lrow (mixF m (fw f m) i j m) hj, mix_row hmm i j j, mix_col hmm i j i, e1, plus_ev (vb m (by omega) i m) (vb m (by omega) m j), pln_vD, greater_ev (vb m (by omega) i j) (vbp m (by omega) i m j), wSlotL_lol, ixN_nat hi, ixN_nat hj, range_at _ hi, map_range_set, e2]
        exact ⟨_, rfl⟩
      · subst ht hρ
        have e : lolD n n (mixF m (fw f m) i n) = lolD n n (mixF m (fw f m) (i + 1) 0) := lolD_congr fun a b ha hb => by
          unfold mixF
          by_cases c : a < i + 1
          · rw [if_pos (by omega), if_pos (by omega)]
          · rw [if_neg (by omega), if_neg (by omega)]
        exact ⟨rfl, some (.int i), x5, by rw [e]⟩
    · subst ht hρ
      have e : lolD n n (mixF m (fw f m) n 0) = lolD n n (fw f (m + 1)) := lolD_congr fun a b ha hb => by
        unfold mixF
        rw [if_pos (by omega)]; rfl
      exact ⟨rfl, some (.int m), x4, x5, by rw [e]⟩
  · subst ht hρ
    dsimp! [hr]
    refine wp_lcR _ (fun i => .bl false) (fun i hi => ?_) ?_
    · dsimp! [ix_lol n (fw f n) hi, ix_lrow (fw f n i) hi, z0, is_less_ev V00 (vb n (by omega) i i), diag n (by omega) i hi]
    have ha : gAny [.lst ((List.range n).map fun _ => D.bl false)] = some (.bl false) := by
      show (bls _).map _ = _
      rw [bls_map_false]; simp
    dsimp! [hn3, ha, items_lol]
    refine wp_lcR _ (fun i => rowD n (fw f n i)) (fun i hi => ?_) ?_
    · dsimp! []; rfl
    dsimp! [hn3]; rfl
end FL.L
set_option maxRecDepth 100000
set_option maxHeartbeats 400000
noncomputable section
namespace FL.L
open PySem PySem.Spec PyProof.Rows L2 FL
theorem R0_zero : R0 0 := Bd.r0 (d := 1) (N := 0) Bd.zero (by decide) (by decide) (by decide)
theorem V0_zero : V0 (some 0) := V0.some R0_zero
theorem zero_vD : d_ratios_ZERO = vD (some 0) := rfl
theorem subtract_ev {a b : Rat} (ha : R0 a) (hb : R0 b) (t : Tape) : F_ratios_subtract [rD a, rD b] t = some (rD (a - b), t) := by
  have hs := smd2 ha hb
  rw [← Int.natCast_mul] at hs
  simp! [F_ratios_subtract, m_ratios_subtract, rD, oMul_int ha.smn hb.smd, oMul_int hb.smn ha.smd, oMul_int ha.smd hb.smd]
  rw [← Int.natCast_mul, make_ev _ _ (Nat.mul_ne_zero a.den_nz b.den_nz) hs, ← Rat.sub_def]
  simp! [rD]
def vminus (v : Option Rat) (q : Rat) : Option Rat := v.map (· - q)
def vmin (a b : Option Rat) : Option Rat := if vless a b then a else b
theorem minus_ev {v : Option Rat} {q : Rat} (hv : V0 v) (hq : R0 q) (t : Tape) : F_values_minus [vD v, rD q] t = some (vD (vminus v q), t) := by
  cases v with
  | none => refine wp_eq ?_; dsimp! [F_values_minus, m_values_minus, vD, vminus, Option.map_none]
  | some a => refine wp_eq ?_; dsimp! [F_values_minus, m_values_minus, vD, oIs_non, show isN (rD a) = false from rfl, subtract_ev hv.of hq, pln_rD, vminus, Option.map_some]
theorem lesser_ev {a b : Option Rat} (ha : V0 a) (hb : V0 b) (t : Tape) : F_values_lesser [vD a, vD b] t = some (vD (vmin a b), t) := by
  refine wp_eq ?_
  dsimp! [F_values_lesser, m_values_lesser, is_less_ev ha hb, vmin]
  refine iteK_split (fun h => ?_) fun h => ?_ <;> rw [h] <;> rfl
theorem vmin_or (a b : Option Rat) : vmin a b = a ∨ vmin a b = b := by
  unfold vmin; split
  · exact .inl rfl
  · exact .inr rfl
theorem vmin_le1 (a b : Option Rat) : vle (vmin a b) a := by
  unfold vmin; split
  · exact vle_refl a
  · rename_i h; exact vless_false.mp (by simpa using h)
theorem vmin_le2 (a b : Option Rat) : vle (vmin a b) b := by
  unfold vmin; split
  · rename_i h; exact (vle_total a b).elim id fun q => absurd q (vless_iff.mp h)
  · exact vle_refl b
theorem le_vmin {a b c : Option Rat} (h1 : vle c a) (h2 : vle c b) : vle c (vmin a b) := by
  rcases vmin_or a b with e | e <;> rw [e]
  · exact h1
  · exact h2
theorem vmin_eq1 {a b : Option Rat} (h : vle a b) : vmin a b = a := vle_antisymm (vmin_le1 a b) (le_vmin (vle_refl a) h)
theorem vmin_eq2 {a b : Option Rat} (h : vle b a) : vmin a b = b := vle_antisymm (vmin_le2 a b) (le_vmin h (vle_refl b))
theorem VB.min {d N : Nat} {a b : Option Rat} (ha : VB d N a) (hb : VB d N b) : VB d N (vmin a b) := by
  rcases vmin_or a b with e | e <;> rw [e]
  · exact ha
  · exact hb
theorem Bd.sub {d N M : Nat} (hd : d ≠ 0) {a b : Rat} (ha : Bd d N a) (hb : Bd d M b) : Bd d (N + M) (a - b) := by
  rw [Rat.sub_eq_add_neg]; exact Bd.add hd ha (Bd.neg hb)
theorem VB.minus {d N M : Nat} (hd : d ≠ 0) {v : Option Rat} {q : Rat} (ha : VB d N v) (hb : Bd d M q) : VB d (N + M) (vminus v q) := by
  cases v with
  | none => exact VB.none
  | some a => exact VB.some (Bd.sub hd (ha a rfl) hb)
theorem vminus_mono {a b : Option Rat} {q : Rat} (h : vle a b) : vle (vminus a q) (vminus b q) := by
  cases a with
  | none => trivial
  | some a =>
    cases b with
    | none => exact h.elim
    | some b =>
      have h : a ≤ b := h
      show a - q ≤ b - q
      grind
/-- adding and taking away -/
theorem le_vminus {a x : Option Rat} {q : Rat} : vle x (vminus a q) ↔ vle (vplus (some q) x) a := by
  cases a <;> cases x <;> try exact Iff.rfl
  show _ ≤ _ - _ ↔ _ + _ ≤ _
  constructor <;> intro h <;> grind
/-! what is solved from above -/
def tfD : Option (Option Rat) → D
  | none => .str "free"
  | some v => vD v
def tryC (col g : Nat → Option Rat) : Nat → Option (Option Rat)
  | 0 => none
  | i + 1 => match col i with
    | none => tryC col g i
    | some q => some (match tryC col g i with | none => vminus (g i) q | some b => vmin b (vminus (g i) q))
theorem shp_free (k : Nat) : shp (k + 1) (.str "free") = true := by
  show PyData.strOk "free" = true
  decide +kernel
theorem oEq_free (b : Option (Option Rat)) : oEq (tfD b) (.str "free") = some (.bl b.isNone) := by
  unfold oEq
  rw [shp_free 8]
  rcases b with _ | _ | q
  · rw [show tfD none = .str "free" from rfl, shp_free 8]
    show some (D.bl (("free" : Str) == "free")) = _
    simp
  · rfl
  · rfl
theorem pln_tfD (b : Option (Option Rat)) : pln 9 (tfD b) = true := by rcases b with _ | _ | q <;> rfl
theorem pln_tf8 (k : Nat) (b : Option (Option Rat)) : pln (k + 2) (tfD b) = true := by rcases b with _ | _ | q <;> rfl
theorem tryC_vb {d N : Nat} {col g : Nat → Option Rat} (h : ∀ i q, col i = some q → VB d N (vminus (g i) q)) : ∀ i v, tryC col g i = some v → VB d N v
  | 0, v, e => by cases e
  | i + 1, v, e => by
    unfold tryC at e
    cases hc : col i with
    | none => rw [hc] at e; exact tryC_vb h i v e
    | some q =>
      rw [hc] at e
      simp only [Option.some.injEq] at e
      subst e
      cases ht : tryC col g i with
      | none => exact h i q hc
      | some b => exact VB.min (tryC_vb h i b ht) (h i q hc)
theorem range_snoc (φ : Nat → D) (n : Nat) : (List.range n).map φ ++ [φ n] = (List.range (n + 1)).map φ := by rw [List.range_succ, List.map_append]; rfl
def tryD (n m : Nat) (f : Nat → Nat → Option Rat) (g : Nat → Option Rat) : D := .tup ((List.range m).map fun j => tfD (tryC (fun i => f i j) g n))
theorem try_below_ev (n m : Nat) (f : Nat → Nat → Option Rat) (g : Nat → Option Rat) (t : Tape) (hn : 0 < n) (hn2 : n ≤ 30) (hm : 0 < m) (hm2 : m ≤ 30) {d N : Nat} (hd : 0 < d) (h2 : d < 2 ^ 200) (h3 : N < 2 ^ 100) (hf : ∀ i j, VB d N (f i j)) (hg : ∀ i, VB d N (g i)) :
    F_tables_try_below [tabD n m f, rowD n g] t = some (tryD n m f g, t) := by
  have hn3 : n ≤ 100000 := by omega
  have hm3 : m ≤ 100000 := by omega
  have gap : ∀ i j q, f i j = some q → VB d (N + N) (vminus (g i) q) := fun i j q e => VB.minus (by omega) (hg i) (hf i j q e)
  refine wp_eq ?_
  dsimp! [F_tables_try_below, m_tables_try_below, check_table_ev n m f t hn hn2 hm hm2, gLen_tab, check_row_ev n g t hn2, turned_ev n m f t hn hn2 hm2, show pln 9 (tabD m n fun i j => f j i) = true from pln_tab 5 _ _ _, items_tab, Nat.zero_le]
  refine wp_forR _ (fun j ρ t' => t' = t ∧ ∃ x3 x4 x5 x6 x7, ρ = [some (tabD n m f), some (rowD n g), some (.lst ((List.range j).map fun j => tfD (tryC (fun i => f i j) g n))), x3, x4, x5, x6, x7]) ⟨rfl, _, _, _, _, _, rfl⟩ (fun j ρ t' hj ⟨ht, x3, x4, x5, x6, x7, hρ⟩ => ?_) (fun ρ t' ⟨ht, x3, x4, x5, x6, x7, hρ⟩ => ?_)
  · subst ht hρ
    dsimp! [zipA_row]
    refine wp_forR _ (fun i ρ t2 => t2 = t' ∧ ∃ x5 x6 x7, ρ = [some (tabD n m f), some (rowD n g), some (.lst ((List.range j).map fun j => tfD (tryC (fun i => f i j) g n))), some (rowD n fun i => f i j), some (tfD (tryC (fun i => f i j) g i)), x5, x6, x7]) ⟨rfl, _, _, _, rfl⟩ (fun i ρ t2 hi ⟨ht, x5, x6, x7, hρ⟩ => ?_) (fun ρ t2 ⟨ht, x5, x6, x7, hρ⟩ => ?_)
    · subst ht hρ
      cases e : f i j with
      | none =>
        have e2 : tryC (fun i => f i j) g (i + 1) = tryC (fun i => f i j) g i := by
          show (match f i j with | none => _ | some q => _) = _
          rw [e]
        dsimp! [show vD (f i j) = .non by rw [e]; rfl, e2]
        exact ⟨_, _, _, rfl⟩
      | some q =>
        have e' : vD (some q) = rD q := rfl
        have v1 : V0 (vminus (g i) q) := (gap i j q e).v0 hd h2 (by omega)
        have v2 : V0 (g i) := (hg i).v0 hd h2 (by omega)
        have v3 : R0 q := (hf i j q e).r0 hd h2 (by omega)
        dsimp! [e', show isN (rD q) = false from rfl, minus_ev v2 v3, pln_vD, oEq_free]
        cases e3 : tryC (fun i => f i j) g i with
        | none =>
          have e2 : tryC (fun i => f i j) g (i + 1) = some (vminus (g i) q) := by
            show (match f i j with | none => _ | some q => _) = _
            rw [e]; show some (match tryC (fun i => f i j) g i with | none => _ | some b => _) = _; rw [e3]
          dsimp! [Option.isNone, e2]
          exact ⟨_, _, _, rfl⟩
        | some b =>
          have e2 : tryC (fun i => f i j) g (i + 1) = some (vmin b (vminus (g i) q)) := by
            show (match f i j with | none => _ | some q => _) = _
            rw [e]; show some (match tryC (fun i => f i j) g i with | none => _ | some b => _) = _; rw [e3]
          have v4 : V0 b := (tryC_vb (N := N + N) (fun i q e => gap i j q e) i b e3).v0 hd h2 (by omega)
          have e5 : tfD (some b) = vD b := rfl
          dsimp! [Option.isNone, e2, e5, lesser_ev v4 v1, pln_vD]
          exact ⟨_, _, _, rfl⟩
    · subst ht hρ
      have hj3 : j ≤ 100000 := by omega
      dsimp! [hj3, range_snoc (fun j => tfD (tryC (fun i => f i j) g n)) j]
      exact ⟨_, _, _, _, _, rfl⟩
  · subst ht hρ
    dsimp! []
    rfl
end FL.L
set_option maxRecDepth 100000
set_option maxHeartbeats 400000
noncomputable section
namespace FL.L
open PySem PySem.Spec PyProof.Rows L2 FL
theorem shp_lst {n : Nat} {α : Type} {f : α → D} {l : List α} (h : ∀ a ∈ l, shp n (f a) = true) : shp (n + 1) (.lst (l.map f)) = true := by
  show List.all _ _ = true
  rw [List.all_eq_true]
  intro d hd
  obtain ⟨a, ha, rfl⟩ := List.mem_map.mp hd
  exact h a ha
theorem oEq_nilL (l : List D) (h : shp 9 (.lst l) = true) : oEq (.lst l) (.lst []) = some (.bl l.isEmpty) := by
  unfold oEq
  rw [h]
  cases l <;> rfl
theorem cut_drop {α : Type} (l : List α) (k : Nat) : cutL l (some (k : Int)) none = l.drop k := by
  unfold cutL
  rw [HT.sIx_none, HT.sIx_nat]
  by_cases h : k ≤ l.length
  · rw [Nat.min_eq_left h]
    exact List.take_of_length_le (by rw [List.length_drop]; exact Nat.le_refl _)
  · rw [Nat.min_eq_right (by omega), List.drop_eq_nil_of_le (by omega), List.drop_eq_nil_of_le (by omega), List.take_nil]
theorem map_some_rD (l : List Rat) : l.map rD = (l.map some).map vD := by rw [List.map_map]; rfl
theorem games_best_ev {l : List Rat} (h0 : l ≠ []) (hl : ∀ q ∈ l, R0 q) (t : Tape) : ∃ b, F_games_best [.lst (l.map rD)] t = some (rD b, t) ∧ b ∈ l ∧ ∀ x ∈ l, x ≤ b := by
  have hs := vmaxL_none (l.map some)
  have hb : ∃ b, vmaxL none (l.map some) = some b := by
    cases e : vmaxL none (l.map some) with
    | some b => exact ⟨b, rfl⟩
    | none =>
      obtain ⟨a, ha⟩ := List.exists_mem_of_ne_nil l h0
      have := hs.1 (some a) (List.mem_map_of_mem ha)
      rw [e] at this; exact this.elim
  obtain ⟨b, hb⟩ := hb
  refine ⟨b, ?_, ?_, fun x hx => ?_⟩
  · have hV : ∀ v ∈ l.map some, V0 v := fun v hv => by
      obtain ⟨q, hq, rfl⟩ := List.mem_map.mp hv
      exact V0.some (hl q hq)
    have hd : rD b = vD (vmaxL none (l.map some)) := by rw [hb]; rfl
    refine wp_eq ?_
    rw [hd, map_some_rD]
    dsimp! [F_games_best, m_games_best]
    refine wp_forM _ _ (fun i ρ t' => t' = t ∧ ∃ x2, ρ = [some (.lst ((l.map some).map vD)), some (vD (vmaxL none ((l.map some).take i))), x2]) ⟨rfl, _, rfl⟩ (fun i a ρ t' e ⟨ht, x2, hρ⟩ => ?_) (fun ρ t' ⟨ht, x2, hρ⟩ => ?_)
    · subst ht hρ
      have h1 : V0 (vmaxL none ((l.map some).take i)) := (vmaxL_none _).V0 fun x hx => hV x (List.mem_of_mem_take hx)
      have h2 : V0 a := hV a (List.mem_of_getElem? e)
      have h3 : vmaxL none ((l.map some).take (i + 1)) = vmax (vmaxL none ((l.map some).take i)) a := by
        rw [take_succ e]; unfold vmaxL; rw [List.foldl_append]; rfl
      dsimp! [greater_ev h1 h2, pln_vD, h3]
      exact ⟨_, rfl⟩
    · subst ht hρ
      dsimp! [List.take_of_length_le (show (l.map some).length ≤ l.length by simp)]
  · have := hs.2.resolve_left (by rw [hb]; exact fun z => by cases z)
    rw [hb] at this
    obtain ⟨q, hq, e⟩ := List.mem_map.mp this
    cases e; exact hq
  · have := hs.1 (some x) (List.mem_map_of_mem hx)
    rw [hb] at this; exact this
theorem games_least_ev {l : List Rat} (h0 : l ≠ []) (hl : ∀ q ∈ l, R0 q) (hn : l.length ≤ 100000) (t : Tape) : ∃ b, F_games_least [.lst (l.map rD)] t = some (rD b, t) ∧ b ∈ l ∧ ∀ x ∈ l, b ≤ x := by
  cases l with
  | nil => exact absurd rfl h0
  | cons a l =>
    have key : wp (F_games_least [.lst ((a :: l).map rD)] t) fun r => ∃ b, r = (rD b, t) ∧ b ∈ a :: l ∧ ∀ x ∈ a :: l, b ≤ x := by
      have hsh : shp 9 (.lst ((a :: l).map rD)) = true := shp_lst (n := 8) fun a _ => shp_rD 6 a
      have hx : oIx (.lst ((a :: l).map rD)) (.int 0) = some (rD a) := oIx_lst (by omega) rfl
      have hc : cutL ((a :: l).map rD) (some 1) none = l.map rD := cut_drop ((a :: l).map rD) 1
      have he : ((a :: l).map rD).isEmpty = false := rfl
      generalize hL : a :: l = L at *
      dsimp! [F_games_least, m_games_least]
      refine wp_lcF _ _ rD (fun _ => true) (fun q hq => ?_) ?_
      · dsimp! [show isN (rD q) = false from rfl]
        exact fun _ => trivial
      rw [List.filter_eq_self.mpr fun _ _ => rfl]
      dsimp! [hn, oEq_nilL _ hsh, he, hx, oSlL, hc, Nat.zero_le]
      refine wp_forM _ _ (fun i ρ t' => t' = t ∧ ∃ x1 b, ρ = [some (.lst (L.map rD)), x1, some (.lst (L.map rD)), some (rD b)] ∧ b ∈ a :: l.take i ∧ ∀ x ∈ a :: l.take i, b ≤ x) ⟨rfl, _, a, rfl, by simp, by simp⟩ (fun i q ρ t' e ⟨ht, x1, b, hρ, hb, hbx⟩ => ?_) (fun ρ t' ⟨ht, x1, b, hρ, hb, hbx⟩ => ?_)
      · subst ht hρ
        have hb' : b ∈ L := by
          rw [← hL]
          rcases List.mem_cons.mp hb with e | e
          · rw [e]; exact List.mem_cons_self
          · exact List.mem_cons_of_mem _ (List.mem_of_mem_take e)
        have hq' : q ∈ L := by rw [← hL]; exact List.mem_cons_of_mem _ (List.mem_of_getElem? e)
        have h3 := lesser_ev (V0.some (hl b hb')) (V0.some (hl q hq')) t'
        simp only [show ∀ q, vD (some q) = rD q from fun _ => rfl] at h3
        dsimp! [h3, pln_vD]
        refine ⟨some (rD q), ?_⟩
        unfold vmin
        by_cases c : b < q
        · rw [if_pos (by simpa [vless] using c)]
          refine ⟨b, rfl, ?_, fun x hx => ?_⟩
          · rw [take_succ e]
            rcases List.mem_cons.mp hb with e | e
            · rw [e]; exact List.mem_cons_self
            · exact List.mem_cons_of_mem _ (List.mem_append_left _ e)
          · rw [take_succ e, ← List.cons_append] at hx
            rcases List.mem_append.mp hx with e | e
            · exact hbx x e
            · rw [List.mem_singleton.mp e]; exact Rat.le_of_lt c
        · rw [if_neg (by simpa [vless] using c)]
          refine ⟨q, rfl, ?_, fun x hx => ?_⟩
          · rw [take_succ e]
            exact List.mem_cons_of_mem _ (List.mem_append_right _ (List.mem_singleton.mpr rfl))
          · rw [take_succ e, ← List.cons_append] at hx
            rcases List.mem_append.mp hx with e | e
            · exact Rat.le_trans (Rat.not_lt.mp c) (hbx x e)
            · rw [List.mem_singleton.mp e]; exact Rat.le_refl
      · subst ht hρ
        rw [List.take_length, hL] at hb hbx
        dsimp! []
        exact ⟨b, rfl, hb, hbx⟩
    obtain ⟨r, e, b, rfl, h1, h2⟩ := key
    exact ⟨b, e, h1, h2⟩
theorem filt_rD {α : Type} (f : α → Option Rat) : ∀ l : List α, (l.filter fun j => (f j).isSome).map (fun j => vD (f j)) = (l.filterMap f).map rD
  | [] => rfl
  | a :: l => by
    cases e : f a with
    | none => rw [List.filter_cons_of_neg (by simp [e]), List.filterMap_cons_none e, filt_rD f l]
    | some q => rw [List.filter_cons_of_pos (by simp [e]), List.filterMap_cons_some e, List.map_cons, List.map_cons, filt_rD f l, e]; rfl
theorem not_isN (v : Option Rat) : (!isN (vD v)) = v.isSome := by cases v <;> rfl
/-- tables one on the other -/
def stackF (n : Nat) (f g : Nat → Nat → Option Rat) : Nat → Nat → Option Rat := fun i j => if i < n then f i j else g (i - n) j
theorem oAdd_tab (n n' m : Nat) (f g : Nat → Nat → Option Rat) (hn : n ≤ 100) (hn' : n' ≤ 100) : oAdd (tabD n m f) (tabD n' m g) = some (tabD (n + n') m (stackF n f g)) := by
  have e : oAdd (tabD n m f) (tabD n' m g) = if small (((List.range n).map fun i => rowD m (f i)) ++ ((List.range n').map fun i => rowD m (g i))) = true then some (.tup (((List.range n).map fun i => rowD m (f i)) ++ ((List.range n').map fun i => rowD m (g i)))) else none := rfl
  rw [e, if_pos (small_of (by simp; omega))]
  unfold tabD
  congr 2
  rw [List.range_add, List.map_append, List.map_map]
  congr 1
  · exact range_congr fun i hi => by
      congr 1
      funext j
      unfold stackF
      rw [if_pos hi]
  · refine List.map_congr_left fun i hi => ?_
    show _ = rowD m (stackF n f g (n + i))
    congr 1
    funext j
    unfold stackF
    rw [if_neg (by omega), Nat.add_sub_cancel_left]
theorem sub_zero' (a : Rat) : a - 0 = a := by grind
theorem sub_mul_cast (a c : Rat) (k : Nat) : a - (k : Rat) * c - c = a - ((k + 1 : Nat) : Rat) * c := by
  rw [Rat.natCast_add]; grind
theorem lowest_ev (n n' m : Nat) (f g : Nat → Nat → Option Rat) (s : Nat → Rat) (t : Tape) (hn : n ≤ 30) (hn' : n' ≤ 30) (hm : 0 < m) (hm2 : m ≤ 30) {N : Nat} (h3 : N < 2 ^ 100) (hf : ∀ i j, VB 1 N (f i j)) (hg : ∀ i j, VB 1 N (g i j)) (hs : ∀ j, Bd 1 N (s j))
    (h0 : ∃ i j q, i < n + n' ∧ j < m ∧ stackF n f g i j = some q) : ∃ B L lo, F_games_lowest [tabD n m f, tabD n' m g, rowD m fun j => some (s j)] t = some (rD (lo - ((2 * m + 2 : Nat) : Rat) * (B - L + 1)), t) ∧
      (∃ i j, i < n + n' ∧ j < m ∧ stackF n f g i j = some B) ∧ (∃ i j, i < n + n' ∧ j < m ∧ stackF n f g i j = some L) ∧ (∀ i j q, i < n + n' → j < m → stackF n f g i j = some q → L ≤ q ∧ q ≤ B) ∧ (∃ j, j < m ∧ lo = s j) ∧ (∀ j, j < m → lo ≤ s j) ∧ R0 (lo - ((2 * m + 2 : Nat) : Rat) * (B - L + 1)) := by
  have hm3 : m ≤ 100000 := by omega
  let T := stackF n f g
  have hT : ∀ i j, VB 1 N (T i j) := fun i j => by
    show VB 1 N (stackF n f g i j)
    unfold stackF; split
    · exact hf _ _
    · exact hg _ _
  have key : wp (F_games_lowest [tabD n m f, tabD n' m g, rowD m fun j => some (s j)] t) fun r => ∃ B L lo, r = (rD (lo - ((2 * m + 2 : Nat) : Rat) * (B - L + 1)), t) ∧
      (∃ i j, i < n + n' ∧ j < m ∧ T i j = some B) ∧ (∃ i j, i < n + n' ∧ j < m ∧ T i j = some L) ∧ (∀ i j q, i < n + n' → j < m → T i j = some q → L ≤ q ∧ q ≤ B) ∧ (∃ j, j < m ∧ lo = s j) ∧ (∀ j, j < m → lo ≤ s j) ∧ R0 (lo - ((2 * m + 2 : Nat) : Rat) * (B - L + 1)) := by
    dsimp! [F_games_lowest, m_games_lowest, oAdd_tab n n' m f g (by omega) (by omega), items_tab, Nat.zero_le]
    refine wp_forR _ (fun i ρ t' => t' = t ∧ ∃ (l : List Rat) (x4 x9 : Option D), ρ = [some (tabD n m f), some (tabD n' m g), some (rowD m fun j => some (s j)), some (.lst (l.map rD)), x4, none, none, none, none, none] ∧ l.length ≤ i * m ∧ (∀ q, q ∈ l ↔ ∃ a b, a < i ∧ b < m ∧ T a b = some q)) ⟨rfl, [], none, none, rfl, by simp, fun q => by simp⟩ (fun i ρ t' hi ⟨ht, l, x4, x9, hρ, hl, hq⟩ => ?_) (fun ρ t' ⟨ht, l, x4, x9, hρ, hl, hq⟩ => ?_)
    · subst ht hρ
      dsimp! [items_row]
      refine wp_lcF _ _ (fun j => vD (T i j)) (fun j => (T i j).isSome) (fun j hj => ?_) ?_
      · dsimp! [not_isN]
        exact ⟨rfl, fun _ => rfl⟩
      rw [filt_rD (T i)]
      have hle : ((List.range m).filterMap (T i)).length ≤ m := by
        have := List.length_filterMap_le (T i) (List.range m)
        simpa using this
      have hb1 : ((List.range m).filterMap (T i)).length ≤ 100000 := by omega
      have hb2 : (l.map rD ++ ((List.range m).filterMap (T i)).map rD).length ≤ 100000 := by
        rw [List.length_append, List.length_map, List.length_map]
        have : i * m ≤ 60 * 30 := Nat.mul_le_mul (by omega) hm2
        omega
      dsimp! [hb1, hb2]
      refine ⟨l ++ (List.range m).filterMap (T i), some (rowD m (T i)), none, ?_, ?_, fun q => ?_⟩
      · rw [List.map_append]
      · rw [List.length_append, Nat.succ_mul]; omega
      · rw [List.mem_append, hq q, List.mem_filterMap]
        constructor
        · rintro (⟨a, b, h1, h2, h3⟩ | ⟨b, h1, h2⟩)
          · exact ⟨a, b, by omega, h2, h3⟩
          · exact ⟨i, b, by omega, List.mem_range.mp h1, h2⟩
        · rintro ⟨a, b, h1, h2, h3⟩
          by_cases e : a = i
          · subst e; exact .inr ⟨b, List.mem_range.mpr h2, h3⟩
          · exact .inl ⟨a, b, by omega, h2, h3⟩
    · subst ht hρ
      dsimp! [items_row]
      refine wp_lcF _ _ (fun j => rD (s j)) (fun j => true) (fun j hj => ?_) ?_
      · dsimp! [show ∀ j, isN (vD (some (s j))) = false from fun _ => rfl]
        exact fun _ => rfl
      rw [List.filter_eq_self.mpr fun _ _ => rfl, show (List.range m).map (fun j => rD (s j)) = ((List.range m).map s).map rD by rw [List.map_map]; rfl]
      have hne : l ≠ [] := by
        obtain ⟨i, j, q, h1, h2, h3⟩ := h0
        exact List.ne_nil_of_mem ((hq q).mpr ⟨i, j, h1, h2, h3⟩)
      have hlB : ∀ q ∈ l, Bd 1 N q := fun q h => by
        obtain ⟨a, b, _, _, e⟩ := (hq q).mp h
        exact hT a b q e
      have hl2 : l.length ≤ 100000 := by
        have : (n + n') * m ≤ 60 * 30 := Nat.mul_le_mul (by omega) hm2
        omega
      obtain ⟨B, eB, hB, hB2⟩ := games_best_ev hne (fun q h => (hlB q h).r0 (by decide) (by decide) (by omega)) t'
      obtain ⟨L, eL, hL, hL2⟩ := games_least_ev hne (fun q h => (hlB q h).r0 (by decide) (by decide) (by omega)) hl2 t'
      have hsl : ((List.range m).map s) ≠ [] := by
        intro z
        have := congrArg List.length z
        simp at this; omega
      have hsB : ∀ q ∈ (List.range m).map s, Bd 1 N q := fun q h => by
        obtain ⟨j, _, rfl⟩ := List.mem_map.mp h
        exact hs j
      obtain ⟨lo, elo, hlo, hlo2⟩ := games_least_ev hsl (fun q h => (hsB q h).r0 (by decide) (by decide) (by omega)) (by simp; omega) t'
      have sh1 : shp 9 (.lst (((List.range m).map s).map rD)) = true := shp_lst (n := 8) fun a _ => shp_rD 6 a
      have sh2 : shp 9 (.lst (l.map rD)) = true := shp_lst (n := 8) fun a _ => shp_rD 6 a
      have em1 : (((List.range m).map s).map rD).isEmpty = false := by
        cases e : (List.range m).map s with
        | nil => exact absurd e hsl
        | cons _ _ => rfl
      have em2 : (l.map rD).isEmpty = false := by
        cases e : l with
        | nil => exact absurd e hne
        | cons _ _ => rfl
      have bS : Bd 1 (N + N) (B - L) := Bd.sub (by decide) (hlB B hB) (hlB L hL)
      have hr := range1 (n := 2 * m + 2) (by omega)
      have hrc : ((2 * m + 2 : Nat) : Int) = 2 * (m : Int) + 2 := by omega
      rw [hrc] at hr
      have b1 : Bd 1 1 1 := by unfold Bd; decide
      have bS1 : Bd 1 (N + N + 1) (B - L + 1) := Bd.add (by decide) bS b1
      have hadd := add_ev (bS.r0 (by decide) (by decide) (by omega)) (b1.r0 (by decide) (by decide) (by decide)) t'
      rw [show rD 1 = .tup [.int 1, .int 1] from rfl] at hadd
      have kb : ∀ k : Nat, k ≤ 62 → Bd 1 (N + k * (N + N + 1)) (lo - (k : Rat) * (B - L + 1)) := fun k => by
        induction k with
        | zero =>
          intro _
          rw [Nat.zero_mul, show ((0 : Nat) : Rat) = 0 from rfl, Rat.zero_mul, Rat.sub_eq_add_neg, Rat.neg_zero, Rat.add_zero]
          exact hsB lo hlo
        | succ k ih =>
          intro hk
          rw [← sub_mul_cast, Nat.succ_mul, ← Nat.add_assoc]
          exact Bd.sub (by decide) (ih (by omega)) bS1
      have kb2 : ∀ k : Nat, k ≤ 62 → N + k * (N + N + 1) < 2 ^ 200 := fun k hk => by
        have : k * (N + N + 1) ≤ 62 * (N + N + 1) := Nat.mul_le_mul_right _ hk
        omega
      dsimp! [hm3, oEq_nilL _ sh1, oEq_nilL _ sh2, em1, em2, eB, eL, elo, pln_rD, subtract_ev ((hlB B hB).r0 (by decide) (by decide) (by omega)) ((hlB L hL).r0 (by decide) (by decide) (by omega)), gLen_row, oMul_int (Sm.of (i := 2) (by decide)) (Sm.of (i := (m : Int)) (by omega)), hr]
      refine wp_forR _ (fun k ρ t2 => t2 = t' ∧ ∃ x8, ρ = [some (tabD n m f), some (tabD n' m g), some (rowD m fun j => some (s j)), some (.lst (l.map rD)), x4, some (.lst (((List.range m).map s).map rD)), some (rD (B - L)), some (rD (lo - (k : Rat) * (B - L + 1))), x8, none]) ⟨rfl, none, ?_⟩ (fun k ρ t2 hk ⟨ht, x8, hρ⟩ => ?_) (fun ρ t2 ⟨ht, x8, hρ⟩ => ?_)
      · rw [show ((0 : Nat) : Rat) = 0 from rfl, Rat.zero_mul, sub_zero']
      · subst ht hρ
        dsimp! [Nat.zero_le, hadd, pln_rD, subtract_ev ((kb k (by omega)).r0 (by decide) (by decide) (kb2 k (by omega))) (bS1.r0 (by decide) (by decide) (by omega)), sub_mul_cast]
        exact ⟨_, rfl⟩
      · subst ht hρ
        dsimp! []
        refine ⟨B, L, lo, rfl, ?_, ?_, fun i j q h1 h2 h3 => ?_, ?_, fun j hj => ?_, (kb (2 * m + 2) (by omega)).r0 (by decide) (by decide) (kb2 _ (by omega))⟩
        · exact (hq B).mp hB
        · exact (hq L).mp hL
        · have := (hq q).mpr ⟨i, j, h1, h2, h3⟩
          exact ⟨hL2 q this, hB2 q this⟩
        · obtain ⟨j, hj, e⟩ := List.mem_map.mp hlo
          exact ⟨j, List.mem_range.mp hj, e.symm⟩
        · exact hlo2 _ (List.mem_map_of_mem (List.mem_range.mpr hj))
  obtain ⟨r, e, B, L, lo, rfl, h⟩ := key
  exact ⟨B, L, lo, e, h⟩

/-! ints among fractions -/
theorem den1 {q : Rat} (h : q.den ∣ 1) : q = (q.num : Rat) := by
  have h1 : q.den = 1 := Nat.dvd_one.mp h
  exact Rat.ext rfl (by rw [h1]; rfl)
theorem vb_int {N : Nat} {v : Option Rat} (h : VB 1 N v) (hv : v ≠ none) : ∃ i : Int, v = some (i : Rat) := by
  cases v with
  | none => exact absurd rfl hv
  | some q => exact ⟨q.num, by rw [← den1 (h q rfl).1]⟩
theorem bd_int {N : Nat} {i : Int} (h : i.natAbs ≤ N) : Bd 1 N (i : Rat) := ⟨Nat.dvd_refl 1, by show i.natAbs ≤ N * 1; omega⟩
theorem cast_le {i j : Int} : (i : Rat) ≤ (j : Rat) ↔ i ≤ j := Rat.intCast_le_intCast
theorem sum_lt {U V : Nat → Nat} : ∀ m, (∀ j, j < m → U j ≤ V j) → (∃ j, j < m ∧ U j < V j) → ((List.range m).map U).sum < ((List.range m).map V).sum
  | 0, _, ⟨j, hj, _⟩ => absurd hj (Nat.not_lt_zero _)
  | m + 1, h, ⟨j, hj, hlt⟩ => by
    have le : ∀ m, (∀ j, j < m → U j ≤ V j) → ((List.range m).map U).sum ≤ ((List.range m).map V).sum := fun m => by
      induction m with
      | zero => intro _; exact Nat.le_refl _
      | succ m ih =>
        intro h
        rw [List.range_succ, List.map_append, List.map_append, List.sum_append, List.sum_append]
        have := ih fun j hj => h j (by omega)
        have := h m (by omega)
        simp only [List.map_cons, List.map_nil, List.sum_cons, List.sum_nil]
        omega
    rw [List.range_succ, List.map_append, List.map_append, List.sum_append, List.sum_append]
    simp only [List.map_cons, List.map_nil, List.sum_cons, List.sum_nil]
    by_cases e : j = m
    · subst e
      have := le j fun i hi => h i (by omega)
      omega
    · have := sum_lt m (fun i hi => h i (by omega)) ⟨j, by omega, hlt⟩
      have := h m (by omega)
      omega
theorem tryC_none {col g : Nat → Option Rat} : ∀ n, tryC col g n = none → ∀ i, i < n → col i = none
  | 0, _ => fun i hi => absurd hi (Nat.not_lt_zero i)
  | n + 1, h => fun i hi => by
    unfold tryC at h
    cases e : col n with
    | none =>
      rw [e] at h
      by_cases c : i = n
      · rw [c, e]
      · exact tryC_none n h i (by omega)
    | some q => rw [e] at h; cases h
theorem tryC_le {col g : Nat → Option Rat} {y : Option Rat} : ∀ n, (match tryC col g n with | none => True | some b => vle y b) ↔ ∀ i, i < n → vle (vplus (col i) y) (g i)
  | 0 => ⟨fun _ i hi => absurd hi (Nat.not_lt_zero i), fun _ => trivial⟩
  | n + 1 => by
    have ih := tryC_le (col := col) (g := g) (y := y) n
    have step : (∀ i, i < n + 1 → vle (vplus (col i) y) (g i)) ↔ (∀ i, i < n → vle (vplus (col i) y) (g i)) ∧ vle (vplus (col n) y) (g n) := ⟨fun h => ⟨fun i hi => h i (by omega), h n (by omega)⟩, fun ⟨h1, h2⟩ i hi => by
      by_cases e : i = n
      · rw [e]; exact h2
      · exact h1 i (by omega)⟩
    rw [step, ← ih]
    cases e : col n with
    | none =>
      have e2 : tryC col g (n + 1) = tryC col g n := by
        show (match col n with | none => _ | some q => _) = _
        rw [e]
      rw [e2, vplus_none1]
      exact ⟨fun h => ⟨h, trivial⟩, fun h => h.1⟩
    | some q =>
      cases e3 : tryC col g n with
      | none =>
        have e2 : tryC col g (n + 1) = some (vminus (g n) q) := by
          show (match col n with | none => _ | some q => _) = _
          rw [e]; show some (match tryC col g n with | none => _ | some b => _) = _; rw [e3]
        rw [e2, ← le_vminus]
        exact ⟨fun h => ⟨trivial, h⟩, fun h => h.2⟩
      | some b =>
        have e2 : tryC col g (n + 1) = some (vmin b (vminus (g n) q)) := by
          show (match col n with | none => _ | some q => _) = _
          rw [e]; show some (match tryC col g n with | none => _ | some b => _) = _; rw [e3]
        rw [e2, ← le_vminus]
        exact ⟨fun h => ⟨vle_trans h (vmin_le1 _ _), vle_trans h (vmin_le2 _ _)⟩, fun h => le_vmin h.1 h.2⟩
theorem mulV_ge {m : Nat} (f : Nat → Nat → Option Rat) (v : Nat → Option Rat) (i : Nat) {j : Nat} (hj : j < m) : vle (vplus (f i j) (v j)) (mulV m f v i) :=
  (vmaxL_none _).1 _ (List.mem_map.mpr ⟨j, List.mem_range.mpr hj, rfl⟩)
theorem mulV_le {m : Nat} {f : Nat → Nat → Option Rat} {v : Nat → Option Rat} {i : Nat} {c : Option Rat} (h : ∀ j, j < m → vle (vplus (f i j) (v j)) c) : vle (mulV m f v i) c := by
  rcases (vmaxL_none (dotL m (f i) v)).2 with e | e
  · show vle (vmaxL none _) c
    rw [e]; trivial
  · obtain ⟨j, hj, e⟩ := List.mem_map.mp e
    show vle (vmaxL none _) c
    rw [← e]; exact h j (List.mem_range.mp hj)
theorem mulV_mono {m : Nat} {f : Nat → Nat → Option Rat} {v w : Nat → Option Rat} (h : ∀ j, j < m → vle (v j) (w j)) (i : Nat) : vle (mulV m f v i) (mulV m f w i) :=
  mulV_le fun j hj => vle_trans (vplus_mono (vle_refl _) (h j hj)) (mulV_ge f w i hj)
theorem mulV_vb {d N M m : Nat} (hd : d ≠ 0) {f : Nat → Nat → Option Rat} {v : Nat → Option Rat} {i : Nat} (hf : ∀ j, j < m → VB d N (f i j)) (hv : ∀ j, j < m → VB d M (v j)) : VB d (N + M) (mulV m f v i) := by
  rcases (vmaxL_none (dotL m (f i) v)).2 with e | e
  · show VB d _ (vmaxL none _)
    rw [e]; exact VB.none
  · obtain ⟨j, hj, e⟩ := List.mem_map.mp e
    show VB d _ (vmaxL none _)
    rw [← e]
    exact VB.plus hd (hf j (List.mem_range.mp hj)) (hv j (List.mem_range.mp hj))
/-- one round -/
def follow (N m : Nat) (f g : Nat → Nat → Option Rat) (u : Nat → Option Rat) (j : Nat) : Option Rat := match tryC (fun i => f i j) (mulV m g u) N with
  | none => u j
  | some b => vmin (u j) b
theorem follow_le {N m : Nat} {f g : Nat → Nat → Option Rat} {u : Nat → Option Rat} {j : Nat} {y : Option Rat} : vle y (follow N m f g u j) ↔ vle y (u j) ∧ ∀ i, i < N → vle (vplus (f i j) y) (mulV m g u i) := by
  have := tryC_le (col := fun i => f i j) (g := mulV m g u) (y := y) N
  unfold follow
  cases e : tryC (fun i => f i j) (mulV m g u) N with
  | none =>
    rw [e] at this
    exact ⟨fun h => ⟨h, this.mp trivial⟩, fun h => h.1⟩
  | some b =>
    rw [e] at this
    exact ⟨fun h => ⟨vle_trans h (vmin_le1 _ _), this.mp (vle_trans h (vmin_le2 _ _))⟩, fun h => le_vmin h.1 (this.mpr h.2)⟩
end FL.L
set_option maxRecDepth 100000
set_option maxHeartbeats 400000
noncomputable section
namespace FL.L
open PySem PySem.Spec PyProof.Rows L2 FL
theorem deq_rD' (n : Nat) (a b : Rat) : deq (n + 2) (rD a) (rD b) = decide (a = b) := by
  show (a.num == b.num && ((a.den : Int) == (b.den : Int) && true)) = _
  rw [Bool.and_true]
  by_cases h : a = b
  · subst h; simp
  · rw [decide_eq_false h]
    by_cases h1 : a.num = b.num
    · have h2 : a.den ≠ b.den := fun z => h (Rat.ext h1 z)
      have h3 : (a.den : Int) ≠ b.den := fun z => h2 (Int.ofNat.inj z)
      simp [h1, h3]
    · simp [h1]
theorem deq_vD (n : Nat) (a b : Option Rat) : deq (n + 2) (vD a) (vD b) = decide (a = b) := by
  cases a with
  | none => cases b <;> rfl
  | some a =>
    cases b with
    | none => rfl
    | some b =>
      show deq (n + 2) (rD a) (rD b) = _
      rw [deq_rD']
      by_cases h : a = b
      · rw [h]; simp
      · simp [h]
theorem deqL_map {α : Type} {f : D → D → Bool} {a b : α → D} : ∀ l : List α, deqL f (l.map a) (l.map b) = l.all fun x => f (a x) (b x)
  | [] => rfl
  | x :: l => by simp only [List.map_cons, deqL, List.all_cons, deqL_map l]
theorem deq_row (n m : Nat) (u v : Nat → Option Rat) : deq (n + 3) (rowD m u) (rowD m v) = decide (∀ j, j < m → u j = v j) := by
  show deqL (deq (n + 2)) ((List.range m).map _) ((List.range m).map _) = _
  rw [deqL_map]
  by_cases h : ∀ j, j < m → u j = v j
  · rw [decide_eq_true h, List.all_eq_true]
    intro j hj
    rw [deq_vD, decide_eq_true (h j (List.mem_range.mp hj))]
  · rw [decide_eq_false h]
    cases e : (List.range m).all fun x => deq (n + 2) (vD (u x)) (vD (v x)) with
    | false => rfl
    | true =>
      refine absurd (fun j hj => ?_) h
      have := List.all_eq_true.mp e j (List.mem_range.mpr hj)
      rw [deq_vD] at this
      exact of_decide_eq_true this
theorem oEq_row (m : Nat) (u v : Nat → Option Rat) : oEq (rowD m u) (rowD m v) = some (.bl (decide (∀ j, j < m → u j = v j))) := by
  unfold oEq
  rw [show shp dep (rowD m u) = true from shp_row 6 m u, show shp dep (rowD m v) = true from shp_row 6 m v]
  show some (D.bl (deq 9 _ _)) = _
  rw [deq_row 6]
theorem zipA_try (m n : Nat) (f : Nat → Nat → Option Rat) (g u : Nat → Option Rat) : dZipA [rowD m u, tryD n m f g] = some ((List.range m).map fun j => D.tup [vD (u j), tfD (tryC (fun i => f i j) g n)]) := by
  show some (dZip _ _) = _
  rw [dZip_map]
abbrev iv (U : Nat → Int) : Nat → Option Rat := fun j => some (U j : Rat)
theorem bigger_side_ev (N m : Nat) (F G : Nat → Nat → Option Rat) (S X : Nat → Int) (t : Tape) (hN : 0 < N) (hN2 : N ≤ 30) (hm : 0 < m) (hm2 : m ≤ 30) {K : Nat} (hK : K < 2 ^ 90) (hF : ∀ i j, VB 1 K (F i j)) (hG : ∀ i j, VB 1 K (G i j))
    (hS : ∀ j, (S j).natAbs ≤ K) (hX : ∀ j, (X j).natAbs ≤ K) (hXS : ∀ j, j < m → X j ≤ S j) (hx : ∀ i j, i < N → j < m → vle (vplus (F i j) (some (X j : Rat))) (mulV m G (iv X) i))
    (hsum : ((List.range m).map fun j => (S j - X j).toNat).sum < 2000) (h0 : ∃ i j q, i < N + N ∧ j < m ∧ stackF N F G i j = some q)
    (hfl : ∀ B L lo, (∃ i j, i < N + N ∧ j < m ∧ stackF N F G i j = some B) → (∃ i j, i < N + N ∧ j < m ∧ stackF N F G i j = some L) → (∀ i j q, i < N + N → j < m → stackF N F G i j = some q → L ≤ q ∧ q ≤ B) → (∃ j, j < m ∧ lo = (S j : Rat)) → (∀ j, j < m → lo ≤ (S j : Rat)) → ∀ j, j < m → lo - ((2 * m + 2 : Nat) : Rat) * (B - L + 1) ≤ (X j : Rat)) :
    ∃ U : Nat → Int, F_games_bigger_side [tabD N m F, tabD N m G, rowD m (iv S)] t = some (rowD m (iv U), t) ∧ (∀ j, j < m → X j ≤ U j ∧ U j ≤ S j) ∧ ∀ i j, i < N → j < m → vle (vplus (F i j) (some (U j : Rat))) (mulV m G (iv U) i) := by
  have hm3 : m ≤ 100000 := by omega
  obtain ⟨B, L, lo, elow, f1, f2, f3, f4, f5, f6⟩ := lowest_ev N N m F G (fun j => (S j : Rat)) t hN2 hN2 hm hm2 (N := K) (by omega) hF hG (fun j => bd_int (hS j)) h0
  have hfloor := hfl B L lo f1 f2 f3 f4 f5
  have hφ := f6
  generalize lo - ((2 * m + 2 : Nat) : Rat) * (B - L + 1) = φ at *
  obtain ⟨M0, hM0⟩ : ∃ M0, M0 = ((List.range m).map fun j => (S j - X j).toNat).sum := ⟨_, rfl⟩
  rw [← hM0] at hsum
  have key : wp (F_games_bigger_side [tabD N m F, tabD N m G, rowD m (iv S)] t) fun r => ∃ U : Nat → Int, r = (rowD m (iv U), t) ∧ (∀ j, j < m → X j ≤ U j ∧ U j ≤ S j) ∧ ∀ i j, i < N → j < m → vle (vplus (F i j) (some (U j : Rat))) (mulV m G (iv U) i) := by
    have x0 : oIx (tabD N m F) (.int 0) = some (rowD m (F 0)) := ix_tab m F hN
    have x1 : oIx (tabD N m G) (.int 0) = some (rowD m (G 0)) := ix_tab m G hN
    dsimp! [F_games_bigger_side, m_games_bigger_side, check_table_ev N m F t hN hN2 hm hm2, check_table_ev N m G t hN hN2 hm hm2, gLen_tab, gLen_row, x0, x1, oNe_refl, show gTuple [rowD m (iv S)] = some (rowD m (iv S)) from rfl, elow, pln_rD]
    refine wp_while (fun M ρ t' => t' = t ∧ ∃ (U : Nat → Int) (c : Nat) (x6 x7 : Option D), ρ = [some (tabD N m F), some (tabD N m G), some (rowD m (iv S)), some (rowD m (iv U)), some (.int c), some (rD φ), x6, x7, none, none] ∧ (∀ j, j < m → X j ≤ U j ∧ U j ≤ S j) ∧ M = ((List.range m).map fun j => (U j - X j).toNat).sum ∧ c + M ≤ M0) M0 (by omega)
      ⟨rfl, S, 0, none, none, rfl, fun j hj => ⟨hXS j hj, Int.le_refl _⟩, hM0, by omega⟩ (fun M ρ t' ⟨ht, U, c, x6, x7, hρ, hU, hM, hc⟩ => ?_)
    subst ht hρ
    have hc2 : decide ((c : Int) < 2000) = true := decide_eq_true (by omega)
    have hUb : ∀ j, j < m → VB 1 K (iv U j) := fun j hj => VB.some (bd_int (by have := hU j hj; have := hS j; have := hX j; omega))
    have hgoal : ∀ i, VB 1 (K + K) (mulV m G (iv U) i) := fun i => mulV_vb (by decide) (fun j _ => hG i j) hUb
    have hgap : ∀ i j q, F i j = some q → VB 1 (K + K + K) (vminus (mulV m G (iv U) i) q) := fun i j q e => VB.minus (by decide) (hgoal i) (hF i j q e)
    have htb : ∀ j b, tryC (fun i => F i j) (mulV m G (iv U)) N = some b → VB 1 (K + K + K) b := fun j b e => tryC_vb (fun i q h => hgap i j q h) N b e
    have hfol : ∀ j, j < m → vle (some (X j : Rat)) (follow N m F G (iv U) j) := fun j hj => follow_le.mpr ⟨cast_le.mpr (hU j hj).1, fun i hi => vle_trans (hx i j hi hj) (mulV_mono (fun k hk => show vle (iv X k) (iv U k) from cast_le.mpr (hU k hk).1) i)⟩
    have hfle : ∀ j, vle (follow N m F G (iv U) j) (iv U j) := fun j => (follow_le.mp (vle_refl _)).1
    have hfvb : ∀ j, j < m → VB 1 (K + K + K) (follow N m F G (iv U) j) := fun j hj => by
      unfold follow
      cases e : tryC (fun i => F i j) (mulV m G (iv U)) N with
      | none => exact (hUb j hj).mono (by omega)
      | some b => exact VB.min ((hUb j hj).mono (by omega)) (htb j b e)
    have hex : ∀ j, j < m → ∃ u : Int, follow N m F G (iv U) j = some (u : Rat) ∧ X j ≤ u ∧ u ≤ U j := fun j hj => by
      have h1 := hfol j hj
      have h2 := hfle j
      obtain ⟨u, e⟩ := vb_int (hfvb j hj) (fun z => by rw [z] at h1; exact h1)
      rw [e] at h1 h2
      exact ⟨u, e, cast_le.mp h1, cast_le.mp h2⟩
    obtain ⟨V, hV⟩ : ∃ V : Nat → Int, ∀ j, j < m → follow N m F G (iv U) j = some (V j : Rat) ∧ X j ≤ V j ∧ V j ≤ U j :=
      ⟨fun j => if h : j < m then Classical.choose (hex j h) else 0, fun j hj => by
        show follow N m F G (iv U) j = some (((if h : j < m then Classical.choose (hex j h) else 0 : Int)) : Rat) ∧ _ ≤ (if h : j < m then Classical.choose (hex j h) else 0 : Int) ∧ (if h : j < m then Classical.choose (hex j h) else 0 : Int) ≤ _
        rw [dif_pos hj]; exact Classical.choose_spec (hex j hj)⟩
    have hon := on_row_ev N m G (iv U) t' hN hN2 hm hm2 (fun i j _ _ => (hG i j).v0 (by decide) (by decide) (by omega)) (fun j hj => (hUb j hj).v0 (by decide) (by decide) (by omega)) (fun i j _ hj => (VB.plus (by decide) (hG i j) (hUb j hj)).v0 (by decide) (by decide) (by omega))
    have htry := try_below_ev N m F (mulV m G (iv U)) t' hN hN2 hm hm2 (d := 1) (N := K + K) (by decide) (by decide) (by omega) (fun i j => (hF i j).mono (by omega)) hgoal
    dsimp! [d_games_MOST_ROUNDS, hc2, hon, show pln 9 (rowD N (mulV m G (iv U))) = true from pln_row 6 _ _, htry, show pln 9 (tryD N m F (mulV m G (iv U))) = true from pln_tup (n := 8) fun j _ => pln_tf8 6 _, zipA_try]
    refine wp_lcR _ (fun j => vD (follow N m F G (iv U) j)) (fun j hj => ?_) ?_
    · dsimp! [oEq_free]
      unfold follow
      cases e : tryC (fun i => F i j) (mulV m G (iv U)) N with
      | none => dsimp! [Option.isNone]
      | some b =>
        dsimp! [Option.isNone, show tfD (some b) = vD b from rfl, lesser_ev ((hUb j hj).v0 (by decide) (by decide) (by omega)) ((htb j b e).v0 (by decide) (by decide) (by omega)), pln_vD]
    dsimp! [hm3]
    refine wp_lcR _ (fun j => rD (V j : Rat)) (fun j hj => ?_) ?_
    · obtain ⟨e, h1, h2⟩ := hV j hj
      have hl := is_less_ev (V0.some ((bd_int (i := V j) (N := K) (by have := hU j hj; have := hS j; have := hX j; omega)).r0 (by decide) (by decide) (by omega))) (V0.some hφ) t'
      have hnl : vless (some (V j : Rat)) (some φ) = false := vless_false.mpr (Rat.le_trans (hfloor j hj) (cast_le.mpr h1))
      rw [hnl] at hl
      simp only [show ∀ q, vD (some q) = rD q from fun _ => rfl] at hl
      dsimp! [e, show ∀ q, vD (some q) = rD q from fun _ => rfl, show ∀ q, isN (rD q) = false from fun _ => rfl, hl]
    dsimp! [hm3, show (D.tup ((List.range m).map fun j => rD (V j : Rat))) = rowD m (iv V) from rfl, oEq_row]
    refine iteK_split (fun h => ?_) fun h => ?_
    · have h := of_decide_eq_true h
      refine ⟨U, rfl, hU, fun i j hi hj => ?_⟩
      have := (hV j hj).1
      rw [show some (V j : Rat) = some (U j : Rat) from h j hj] at this
      exact (follow_le.mp (show vle (some (U j : Rat)) (follow N m F G (iv U) j) by rw [this]; exact vle_refl _)).2 i hi
    · have h := of_decide_eq_false h
      have hlt : ((List.range m).map fun j => (V j - X j).toNat).sum < M := by
        rw [hM]
        refine sum_lt m (fun j hj => by have := hV j hj; omega) ?_
        refine Classical.byContradiction fun hn => h fun j hj => ?_
        have h3 := hV j hj
        have : ¬ (V j < U j) := fun z => hn ⟨j, hj, by omega⟩
        have : V j = U j := by omega
        show some (V j : Rat) = some (U j : Rat)
        rw [this]
      refine ⟨_, hlt, V, c + 1, _, _, rfl, fun j hj => ?_, rfl, by omega⟩
      have := hV j hj; have := hU j hj
      omega
  obtain ⟨r, e, U, rfl, h⟩ := key
  exact ⟨U, e, h⟩
end FL.L
set_option maxRecDepth 100000
set_option maxHeartbeats 400000
noncomputable section
namespace FL.L
open PySem PySem.Spec PyProof.Rows L2 FL
def starF (f : Nat → Nat → Option Rat) (n : Nat) : Nat → Nat → Option Rat := fun i j => vmax (unitF i j) (fw f n i j)
theorem unit_vb {d N : Nat} (i j : Nat) : VB d N (unitF i j) := by
  unfold unitF; split
  · exact VB.some Bd.zero
  · exact VB.none
theorem big2 {N n : Nat} (hN : N < 2 ^ 100) (hn : n ≤ 30) : N * 2 ^ n < 2 ^ 140 := by
  have h1 : N * 2 ^ n ≤ N * 2 ^ 31 := Nat.mul_le_mul_left _ (Nat.pow_le_pow_right (by decide) (by omega))
  have h2 : N * 2 ^ 31 < 2 ^ 100 * 2 ^ 31 := Nat.mul_lt_mul_of_pos_right hN (by decide)
  exact Nat.lt_of_le_of_lt h1 (Nat.lt_of_lt_of_le h2 (by rw [← Nat.pow_add]; exact two_pow_le (by decide)))
theorem star_vb {d N : Nat} (hd : d ≠ 0) {f : Nat → Nat → Option Rat} (hf : ∀ i j, VB d N (f i j)) (n i j : Nat) : VB d (N * 2 ^ n) (starF f n i j) := VB.max (unit_vb i j) (fw_vb hd hf n i j)
section
variable {n : Nat} {f : Nat → Nat → Option Rat} {h : Nat → Rat}
theorem star_ev (n : Nat) (f : Nat → Nat → Option Rat) (t : Tape) (hn : 0 < n) (hn2 : n ≤ 30) {d N : Nat} (hd : 0 < d) (hd2 : d < 2 ^ 200) (hN : N < 2 ^ 100) (hf : ∀ i j, VB d N (f i j)) {h : Nat → Rat} (hs : Sub n f fun i => some (h i)) :
    F_tables_star [tabD n n f] t = some (tabD n n (starF f n), t) := by
  refine wp_eq ?_
  have e := tables_add_ev n n unitF (fw f n) t hn hn2 hn hn2 (fun i j => (unit_vb (d := 1) (N := 0) i j).v0 (by decide) (by decide) (by decide)) (fun i j => (fw_vb (by omega) hf n i j).v0 hd hd2 (Nat.lt_trans (big2 hN hn2) (by decide)))
  dsimp! [F_tables_star, m_tables_star, gLen_tab, unit_ev n t hn2, show ∀ f, pln 9 (tabD n n f) = true from fun f => pln_tab 5 _ _ _, ways_ev n f t hn hn2 hd hd2 hN hf hs, e]
  rfl
theorem star_diag (hs : Sub n f fun i => some (h i)) {i : Nat} (hi : i < n) : starF f n i i = some 0 := by
  have := sub_diag (fw_sub hs n (Nat.le_refl n)) hi
  unfold starF unitF
  rw [if_pos rfl]
  exact vmax_eq1 this
theorem star_ge (f : Nat → Nat → Option Rat) (n i j : Nat) : vle (f i j) (starF f n i j) := vle_trans (fw_ge f i j n) (vle_max2 _ _)
theorem star_trans (hs : Sub n f fun i => some (h i)) {i k j : Nat} (hi : i < n) (hk : k < n) (hj : j < n) : vle (vplus (starF f n i k) (starF f n k j)) (starF f n i j) := by
  show vle (vplus (vmax (unitF i k) (fw f n i k)) (vmax (unitF k j) (fw f n k j))) _
  rw [vplus_max, vplus_max2, vplus_max2]
  refine vmax_le (vmax_le ?_ ?_) (vmax_le ?_ ?_)
  · unfold unitF
    by_cases e : i = k
    · subst e
      by_cases e2 : i = j
      · subst e2
        rw [if_pos rfl, star_diag hs hi]
        show (0 : Rat) + 0 ≤ 0
        grind
      · rw [if_neg e2, vplus_none2]; trivial
    · rw [if_neg e, vplus_none1]; trivial
  · unfold unitF
    by_cases e : i = k
    · subst e
      rw [if_pos rfl, vplus_zero1]; exact vle_max2 _ _
    · rw [if_neg e, vplus_none1]; trivial
  · unfold unitF
    by_cases e : k = j
    · subst e
      rw [if_pos rfl, vplus_zero]; exact vle_max2 _ _
    · rw [if_neg e, vplus_none2]; trivial
  · exact vle_trans (fw_trans hs n (Nat.le_refl n) k hk i j hi hj) (vle_max2 _ _)
theorem star_sub {x : Nat → Option Rat} (hx : Sub n f x) : Sub n (starF f n) x := fun i j hi hj => by
  show vle (vplus (vmax (unitF i j) (fw f n i j)) (x j)) _
  rw [vplus_max]
  refine vmax_le ?_ (fw_sub hx n (Nat.le_refl n) i j hi hj)
  unfold unitF
  by_cases e : i = j
  · subst e
    rw [if_pos rfl, vplus_zero1]; exact vle_refl _
  · rw [if_neg e, vplus_none1]; trivial
theorem fw_le {B : Rat} (hB : 0 ≤ B) (hf : ∀ i j, i < n → j < n → vle (f i j) (some B)) : ∀ m, m ≤ n → ∀ i j, i < n → j < n → vle (fw f m i j) (some (((2 ^ m : Nat) : Rat) * B))
  | 0, _ => fun i j hi hj => by
    have : ((2 ^ 0 : Nat) : Rat) * B = B := by rw [Nat.pow_zero, show ((1 : Nat) : Rat) = 1 from rfl, Rat.one_mul]
    rw [this]; exact hf i j hi hj
  | m + 1, hm => fun i j hi hj => by
    have ih := fw_le hB hf m (by omega)
    have e : ((2 ^ (m + 1) : Nat) : Rat) * B = ((2 ^ m : Nat) : Rat) * B + ((2 ^ m : Nat) : Rat) * B := by
      rw [Nat.pow_succ, Rat.natCast_mul, show ((2 : Nat) : Rat) = 2 from rfl]; grind
    have p : 0 ≤ ((2 ^ m : Nat) : Rat) * B := Rat.mul_nonneg Rat.natCast_nonneg hB
    rw [e]
    refine vmax_le ?_ ?_
    · refine vle_trans (ih i j hi hj) ?_
      show _ ≤ _ + _
      grind
    · exact vplus_mono (ih i m hi (by omega)) (ih m j (by omega) hj)
theorem mulV_unit {u : Nat → Option Rat} {i : Nat} (hi : i < n) : mulV n unitF u i = u i := by
  refine vle_antisymm (mulV_le fun j hj => ?_) ?_
  · unfold unitF
    by_cases e : i = j
    · subst e; rw [if_pos rfl, vplus_zero1]; exact vle_refl _
    · rw [if_neg e, vplus_none1]; trivial
  · have := mulV_ge unitF u i hi
    rwa [show unitF i i = some 0 by unfold unitF; rw [if_pos rfl], vplus_zero1] at this
theorem mulV_star {x : Nat → Option Rat} (hs : Sub n f fun i => some (h i)) (hx : Sub n f x) {i : Nat} (hi : i < n) : mulV n (starF f n) x i = x i := by
  refine vle_antisymm (mulV_le fun j hj => star_sub hx i j hi hj) ?_
  have := mulV_ge (starF f n) x i hi
  rwa [star_diag hs hi, vplus_zero1] at this
end
theorem least_above_ev (n : Nat) (f : Nat → Nat → Option Rat) (v : Nat → Option Rat) (t : Tape) (hn : 0 < n) (hn2 : n ≤ 30) {d N : Nat} (hd : 0 < d) (hd2 : d < 2 ^ 200) (hN : N < 2 ^ 100) (hf : ∀ i j, VB d N (f i j)) {h : Nat → Rat} (hs : Sub n f fun i => some (h i))
    (hv : ∀ j, j < n → VB d N (v j)) (h0 : ∃ j, j < n ∧ v j ≠ none) : F_tables_least_above [tabD n n f, rowD n v] t = some (rowD n (mulV n (starF f n) v), t) := by
  have hn3 : n ≤ 100000 := by omega
  have hb : N * 2 ^ n + N < 2 ^ 200 := by
    have := big2 hN hn2
    omega
  have e := on_row_ev n n (starF f n) v t hn hn2 hn hn2 (fun i j _ _ => (star_vb (by omega) hf n i j).v0 hd hd2 (by omega)) (fun j hj => (hv j hj).v0 hd hd2 (by omega)) (fun i j _ hj => (VB.plus (by omega) (star_vb (by omega) hf n i j) (hv j hj)).v0 hd hd2 hb)
  refine wp_eq ?_
  dsimp! [F_tables_least_above, m_tables_least_above, items_row]
  refine wp_lcR _ (fun j => .bl (v j).isSome) (fun j hj => ?_) ?_
  · dsimp! [not_isN]
  have ha : gAny [.lst ((List.range n).map fun j => D.bl (v j).isSome)] = some (.bl true) := by
    show (bls _).map _ = _
    have := bls_map ((List.range n).map fun j => (v j).isSome)
    rw [List.map_map] at this
    rw [show (List.range n).map (fun j => D.bl (v j).isSome) = (List.range n).map (D.bl ∘ fun j => (v j).isSome) from rfl, this]
    show some (D.bl _) = _
    congr 2
    obtain ⟨j, hj, hne⟩ := h0
    rw [List.any_eq_true]
    refine ⟨true, List.mem_map.mpr ⟨j, List.mem_range.mpr hj, ?_⟩, rfl⟩
    cases e : v j with
    | none => exact absurd e hne
    | some q => rfl
  dsimp! [hn3, ha, star_ev n f t hn hn2 hd hd2 hN hf hs, show ∀ f, pln 9 (tabD n n f) = true from fun f => pln_tab 5 _ _ _, e, show ∀ f, pln 9 (rowD n f) = true from fun f => pln_row 6 _ _]
end FL.L
set_option maxRecDepth 100000
set_option maxHeartbeats 400000
noncomputable section
namespace FL.L
open PySem PySem.Spec PyProof.Rows L2 FL
/-! words over a, b, c .. as lists of numbers -/
def wS (l : List Nat) : Str := ⟨(l.map (97 + ·)).toArray⟩
theorem wS_nil : ("" : Str) = wS [] := by decide +kernel
theorem wS_ab : ("ab" : Str) = wS [0, 1] := by decide +kernel
theorem wS_abc : ("abc" : Str) = wS [0, 1, 2] := by decide +kernel
theorem wS_len (l : List Nat) : (wS l).length = l.length := by simp [wS, Str.length]
theorem wS_list (l : List Nat) : (wS l).cps.toList = l.map (97 + ·) := by simp [wS]
theorem gLen_wS {l : List Nat} (h : l.length ≤ 100000) : gLen [.str (wS l)] = some (.int l.length) := by
  show (if sml (wS l).length = true then _ else _) = _
  rw [wS_len, sml_of h]; rfl
theorem strDs_wS (l : List Nat) : strDs (wS l) = l.map fun a => D.str (wS [a]) := by
  unfold strDs
  rw [wS_list, List.map_map]
  rfl
theorem items_wS (l : List Nat) : dItems (.str (wS l)) = some (l.map fun a => D.str (wS [a])) := by
  show some (strDs (wS l)) = _
  rw [strDs_wS]
theorem oIx_wS {l : List Nat} {i a : Nat} (h : l.length ≤ 100000) (e : l[i]? = some a) : oIx (.str (wS l)) (.int i) = some (.str (wS [a])) := by
  have hi : i < l.length := (List.getElem?_eq_some_iff.mp e).1
  show (if sml (wS l).length = true then (atI (wS l).cps.toList (i : Int)).map _ else none) = _
  rw [wS_len, sml_of h, if_pos rfl, wS_list]
  have : atI (l.map (97 + ·)) (i : Int) = some (97 + a) := by
    unfold atI
    rw [ixN_nat (by simpa using hi)]
    show (l.map (97 + ·))[i]? = _
    rw [List.getElem?_map, e]; rfl
  rw [this]; rfl
theorem oSlT_wS {l : List Nat} {i j : Nat} (h : l.length ≤ 100000) (hi : i ≤ l.length) (hj : j ≤ l.length) : oSlT (.str (wS l)) (some i) (some j) = some (.str (wS ((l.drop i).take (j - i)))) := by
  show (if sml (wS l).length = true then some (D.str (cutS (wS l) _ _)) else none) = _
  rw [wS_len, sml_of h, if_pos rfl]
  unfold cutS
  rw [wS_len, wS_list, HT.sIx_nat, HT.sIx_nat, Nat.min_eq_left hi, Nat.min_eq_left hj]
  unfold wS
  rw [List.map_take, List.map_drop]
theorem join_wS (l : List Nat) : Txt.join (wS []) (l.map fun a => wS [a]) = wS l := by
  rw [TL.join_eq]
  have : ∀ s t : Str, s.cps.toList = t.cps.toList → s = t := fun ⟨⟨s⟩⟩ ⟨⟨t⟩⟩ h => by cases h; rfl
  apply this
  have e := TL.tl_join (wS []) (l.map fun a => wS [a])
  have j : ∀ L : List (List Nat), TL.joinL [] L = L.flatten := fun L => by
    induction L with
    | nil => rfl
    | cons p r ih =>
      cases r with
      | nil => simp [TL.joinL]
      | cons q r =>
        show p ++ ([] ++ TL.joinL [] (q :: r)) = _
        rw [ih]; simp
  refine Eq.trans e ?_
  show TL.joinL [] _ = _
  rw [j, wS_list, List.map_map]
  clear e
  induction l with
  | nil => rfl
  | cons a l ih => 
    rw [List.map_cons, List.flatten_cons, ih, List.map_cons]; rfl
theorem strsOf_map {α : Type} (f : α → Str) : ∀ l : List α, strsOf (l.map fun a => D.str (f a)) = some (l.map f)
  | [] => rfl
  | a :: l => by
    show (strsOf _).map _ = _
    rw [strsOf_map f l]; rfl
theorem gJoin_wS {l : List Nat} (h : l.length ≤ 100000) : gJoin (.str (wS [])) [.lst (l.map fun a => D.str (wS [a]))] = some (.str (wS l)) := by
  show (strsOf _).bind _ = _
  rw [strsOf_map (fun a => wS [a])]
  have : joinOk (wS []) (l.map fun a => wS [a]) = true := @decide_eq_true _ (Classical.propDecidable _) (by
    have e : (l.map fun a => wS [a]).map (·.length) = l.map fun _ => 1 := by
      rw [List.map_map]
      refine List.map_congr_left fun a _ => wS_len [a]
    rw [e, wS_len, List.length_nil, Nat.mul_zero]
    have : (l.map fun _ => 1).sum = l.length := by
      induction l with
      | nil => rfl
      | cons a l ih => rw [List.map_cons, List.sum_cons, ih (by simp at h; omega) (by
          rw [List.map_map]
          exact List.map_congr_left fun a _ => wS_len [a]), List.length_cons]; omega
    omega)
  show (if joinOk (wS []) _ = true then _ else _) = _
  rw [this, if_pos rfl, join_wS]
theorem okS_str {n : Nat} {s : Str} (h : PyData.strOk s = true) : okS (n + 1) (.str s) = true := h
end FL.L
set_option maxRecDepth 100000
set_option maxHeartbeats 400000
noncomputable section
namespace FL.L
open PySem PySem.Spec PyProof.Rows L2 FL
/-! instances -/
section
variable {ρ : Env} {t : Tape} {mo : EM} {ma : AM} {K : D × Tape → Prop}
def wFld (c f : Str) (d : D) (K : D → Prop) : Prop := match d with
  | .obj c' ks ds => if c' = c then wp (getF f ks ds) K else False
  | _ => False
theorem w_fld {c f : Str} : wp (mFld c f mo ρ t) K = wp (mo ρ t) fun q => wFld c f q.1 fun d => K (d, q.2) := by
  unfold mFld
  rw [wp_bind]
  congr 1; funext q
  cases q.1 <;> simp only [wFld, wp_none]
  rename_i c' ks ds
  by_cases h : c' = c
  · rw [if_pos h, if_pos h, wp_map]
  · rw [if_neg h, if_neg h, wp_none]
theorem getF1 (f : Str) (ks : List Str) (d : D) (ds : List D) : getF f (f :: ks) (d :: ds) = some d := by
  unfold getF; rw [if_pos rfl]
theorem getF2 {f k : Str} (h : ¬ k = f) (ks : List Str) (d : D) (ds : List D) : getF f (k :: ks) (d :: ds) = getF f ks ds := by
  rw [getF, if_neg h]
theorem wFld_obj {c f : Str} {ks : List Str} {ds : List D} {d : D} {K : D → Prop} (h : getF f ks ds = some d) : wFld c f (.obj c ks ds) K = K d := by
  unfold wFld
  simp only [if_true, h, wp_some]
/-- a method's call -/
def wMeth (c m : Str) (d : D) (A : Prop) : Prop := match d with
  | .obj c' ks ds => if c' = c ∧ ks.contains m = false then A else False
  | _ => False
theorem w_meth {c m : Str} {n lv : Nat} {f : FM} : wp (mMeth c m n lv f mo ma ρ t) K = wp (mo ρ t) fun o => wMeth c m o.1 (wp (ma ρ o.2) fun q => gdK (q.1.length + 1 == n) (wp (f (o.1 :: q.1) q.2) fun r => gdK (plnL lv r.1) (K r))) := by
  unfold mMeth
  rw [wp_bind]
  congr 1; funext o
  cases ho : o.1 <;> simp only [wMeth, wp_none]
  rename_i c' ks ds
  by_cases h : c' = c ∧ ks.contains m = false
  · rw [if_pos h, if_pos h, wp_bind]
    congr 1; funext q
    by_cases hl : q.1.length + 1 = n
    · simp only [hl, if_true, beq_self_eq_true, gdK_t, wp_bind, w_gd, wp_some]
    · have : (q.1.length + 1 == n) = false := by simp [hl]
      simp only [hl, if_false, wp_none, this, gdK, Bool.false_eq_true, false_and]
  · rw [if_neg h, if_neg h, wp_none]
theorem w_bm {g : D → List D → Option D} : wp (mBm g mo ma ρ t) K = wp (mo ρ t) fun p => wp (ma ρ p.2) fun q => wp (g p.1 q.1) fun d => K (d, q.2) := by
  unfold mBm; simp only [wp_bind, wp_map]
end
theorem w_methT {ρ : Env} {t : Tape} {mo : EM} {ma : AM} {K : D × Tape → Prop} {c m : Str} {n lv : Nat} {f : FM} : wp (mMethT c m n lv f mo ma ρ t) K = wp (mo ρ t) fun o => wMeth c m o.1 (wp (ma ρ o.2) fun q => gdK (q.1.length + 1 == n) (wp (f (o.1 :: q.1) q.2) fun r => gdK (plnT lv r.1) (K r))) := by
  unfold mMethT
  rw [wp_bind]
  congr 1; funext o
  cases ho : o.1 <;> simp only [wMeth, wp_none]
  rename_i c' ks ds
  by_cases h : c' = c ∧ ks.contains m = false
  · rw [if_pos h, if_pos h, wp_bind]
    congr 1; funext q
    by_cases hl : q.1.length + 1 = n
    · simp only [hl, if_true, beq_self_eq_true, gdK_t, wp_bind, w_gd, wp_some]
    · have : (q.1.length + 1 == n) = false := by simp [hl]
      simp only [hl, if_false, wp_none, this, gdK, Bool.false_eq_true, false_and]
  · rw [if_neg h, if_neg h, wp_none]
def wFldX (c f : Str) (d : D) [k : Kt D] : Prop := wFld c f d k.k
def wMethX (c m : Str) (d : D) [p : Pr] : Prop := wMeth c m d p.p
section
variable {ρ : Env} {t : Tape} {mo : EM} {ma : AM} {K : Kt (D × Tape)}
theorem y_fld {c f : Str} : @wpx _ (mFld c f mo ρ t) K = @wpx _ (mo ρ t) ⟨fun q => @wFldX c f q.1 ⟨fun d => K.k (d, q.2)⟩⟩ := w_fld
theorem x_fld {c f : Str} {ks : List Str} {ds : List D} {d : D} {k : Kt D} (h : getF f ks ds = some d) : @wFldX c f (.obj c ks ds) k = k.k d := wFld_obj h
theorem y_meth {c m : Str} {n lv : Nat} {f : FM} : @wpx _ (mMeth c m n lv f mo ma ρ t) K = @wpx _ (mo ρ t) ⟨fun o => @wMethX c m o.1 ⟨@wpx _ (ma ρ o.2) ⟨fun q => @gdX (q.1.length + 1 == n) ⟨@wpx _ (f (o.1 :: q.1) q.2) ⟨fun r => @gdX (plnL lv r.1) ⟨K.k r⟩⟩⟩⟩⟩⟩ := w_meth
theorem y_methT {c m : Str} {n lv : Nat} {f : FM} : @wpx _ (mMethT c m n lv f mo ma ρ t) K = @wpx _ (mo ρ t) ⟨fun o => @wMethX c m o.1 ⟨@wpx _ (ma ρ o.2) ⟨fun q => @gdX (q.1.length + 1 == n) ⟨@wpx _ (f (o.1 :: q.1) q.2) ⟨fun r => @gdX (plnT lv r.1) ⟨K.k r⟩⟩⟩⟩⟩⟩ := w_methT
theorem x_meth {c m : Str} {ks : List Str} {ds : List D} {p : Pr} (h : ks.contains m = false) : @wMethX c m (.obj c ks ds) p = p.p := by
  show wMeth c m _ _ = _
  unfold wMeth
  simp only [h, and_self, if_true]
theorem y_bm {g : D → List D → Option D} : @wpx _ (mBm g mo ma ρ t) K = @wpx _ (mo ρ t) ⟨fun p => @wpx _ (ma ρ p.2) ⟨fun q => @wpx _ (g p.1 q.1) ⟨fun d => K.k (d, q.2)⟩⟩⟩ := w_bm
theorem x_lol {n m : Nat} {f : Nat → Nat → Option Rat} {c : Kt (List D)} : @wSlotLX (some (some (lolD n m f))) c = c.k ((List.range n).map fun i => .lst ((List.range m).map fun j => vD (f i j))) := rfl
end
end FL.L
set_option maxRecDepth 100000
set_option maxHeartbeats 400000
noncomputable section
namespace FL.L
open PySem PySem.Spec PyProof.Rows L2 FL
/-! scores: words beside one another -/
/-- the letters a, b, .. of a score -/
def ltrs (k : Nat) : List Nat := List.range k
theorem sindex_wS {k a : Nat} (hk : k = 2 ∨ k = 3) (ha : a < k) : gSIndex (.str (wS (ltrs k))) [.str (wS [a])] = some (.int a) := by
  have key : ∀ k, k < 4 → ∀ a, a < k → 2 ≤ k → (Builtin.Str.occurrences (wS (ltrs k)) (wS [a]) 0 (wS (ltrs k)).length 1).head? = some a := by decide +kernel
  show ((Builtin.Str.occurrences (wS (ltrs k)) (wS [a]) 0 (wS (ltrs k)).length 1).head?).map _ = _
  rw [key k (by omega) a ha (by omega)]; rfl
theorem notIn_wS {k a : Nat} (ha : a < k) : oNotIn (.str (wS [a])) (.str (wS (ltrs k))) = some (.bl false) := by
  have e1 : signOf (wS [a]) = some (97 + a) := rfl
  have h2 : (97 + a) ∈ (wS (ltrs k)).cps.toList := by
    rw [wS_list]
    exact List.mem_map.mpr ⟨a, List.mem_range.mpr ha, rfl⟩
  unfold oNotIn oInN
  simp only [e1, Option.map_some, if_true, h2, decide_true, Bool.not_true]
/-- a score: k letters, the values of pairs, of a run's beginning, of each letter alone -/
def scD (k : Nat) (p : Nat → Nat → Rat) (b e : Rat) : D := .obj "Score" ["letters", "values", "begin", "each"] [.str (wS (ltrs k)), tabD k k fun i j => some (p i j), rD b, rD e]
theorem neK1 : ¬ (("letters" : Str) = "values") := by decide +kernel
theorem neK2 : ¬ (("letters" : Str) = "begin") := by decide +kernel
theorem neK3 : ¬ (("letters" : Str) = "each") := by decide +kernel
theorem neK4 : ¬ (("values" : Str) = "begin") := by decide +kernel
theorem neK5 : ¬ (("values" : Str) = "each") := by decide +kernel
theorem neK6 : ¬ (("begin" : Str) = "each") := by decide +kernel
section
variable {k : Nat} {p : Nat → Nat → Rat} {b e : Rat} {ρ : Env} {t : Tape} {mo : EM} {ma : AM} {K : D × Tape → Prop}
theorem fld_letters {K : D → Prop} : wFld "Score" "letters" (scD k p b e) K = K (.str (wS (ltrs k))) := wFld_obj (getF1 _ _ _ _)
theorem fld_values {K : D → Prop} : wFld "Score" "values" (scD k p b e) K = K (tabD k k fun i j => some (p i j)) := wFld_obj (by rw [getF2 neK1, getF1])
theorem fld_begin {K : D → Prop} : wFld "Score" "begin" (scD k p b e) K = K (rD b) := wFld_obj (by rw [getF2 neK2, getF2 neK4, getF1])
theorem fld_each {K : D → Prop} : wFld "Score" "each" (scD k p b e) K = K (rD e) := wFld_obj (by rw [getF2 neK3, getF2 neK5, getF2 neK6, getF1])
theorem meth_sc {m : Str} {A : Prop} (hm : (["letters", "values", "begin", "each"] : List Str).contains m = false) : wMeth "Score" m (scD k p b e) A = A := by
  unfold wMeth scD
  simp only [hm, and_self, if_true]
end
theorem hm_pair : (["letters", "values", "begin", "each"] : List Str).contains "pair" = false := by decide +kernel
theorem hm_check : (["letters", "values", "begin", "each"] : List Str).contains "check_words" = false := by decide +kernel
theorem hm_tables : (["letters", "values", "begin", "each"] : List Str).contains "tables" = false := by decide +kernel
theorem hm_best : (["letters", "values", "begin", "each"] : List Str).contains "best" = false := by decide +kernel
theorem pair_ev {k : Nat} {p : Nat → Nat → Rat} {b e : Rat} (hk : k = 2 ∨ k = 3) {x y : Nat} (hx : x < k) (hy : y < k) (t : Tape) : F_align_Score_pair [scD k p b e, .str (wS [x]), .str (wS [y])] t = some (rD (p x y), t) := by
  refine wp_eq ?_
  dsimp! [F_align_Score_pair, m_align_Score_pair, w_fld, fld_letters, fld_values, w_bm, sindex_wS hk hx, sindex_wS hk hy, ix_tab k (fun i j => some (p i j)) hx, ix_row (fun j => some (p x j)) hy]
  rfl
theorem check_words_ev {k : Nat} {p : Nat → Nat → Rat} {b e : Rat} {u v : List Nat} (hu : ∀ a ∈ u, a < k) (hv : ∀ a ∈ v, a < k) (lu : u.length ≤ 30) (lv : v.length ≤ 30) (t : Tape) : F_align_Score_check_words [scD k p b e, .str (wS u), .str (wS v)] t = some (.non, t) := by
  have g1 : ∀ w : List Nat, w.length ≤ 30 → decide ((30 : Int) < (w.length : Int)) = false := fun w h => decide_eq_false (by omega)
  have ha : ∀ w : List Nat, gAny [.lst (w.map fun _ => D.bl false)] = some (.bl false) := fun w => by
    show (bls _).map _ = _
    rw [bls_map_false]; simp
  have gl : ∀ w : List Nat, w.length ≤ 30 → gLen [.str (wS w)] = some (.int w.length) := fun w h => gLen_wS (by omega)
  refine wp_eq ?_
  dsimp! [F_align_Score_check_words, m_align_Score_check_words, Nat.reduceLeDiff, w_forC, w_forN, d_align_MOST_WORD, gl u lu, gl v lv, g1 u lu, g1 v lv, items_wS]
  refine wp_lc _ _ (fun _ => .bl false) (fun a h => ?_) ?_
  · dsimp! [w_fld, fld_letters, notIn_wS (hu a h)]
  dsimp! [show u.length ≤ 100000 by omega, ha, gl v lv, g1 v lv, items_wS]
  refine wp_lc _ _ (fun _ => .bl false) (fun a h => ?_) ?_
  · dsimp! [w_fld, fld_letters, notIn_wS (hv a h)]
  dsimp! [show v.length ≤ 100000 by omega, ha]
/-- what the tables hold: ends together, a letter of the one alone, of the other alone -/
def al (pr : Nat → Nat → Rat) (b e : Rat) : Nat → Nat → Option Rat × Option Rat × Option Rat
  | 0, 0 => (some 0, none, none)
  | 0, j + 1 => (none, none, vplus (vmax (vplus (vmax (al pr b e 0 j).1 (al pr b e 0 j).2.1) (some b)) (al pr b e 0 j).2.2) (some e))
  | i + 1, 0 => (none, vplus (vmax (vplus (vmax (al pr b e i 0).1 (al pr b e i 0).2.2) (some b)) (al pr b e i 0).2.1) (some e), none)
  | i + 1, j + 1 => (vplus (vmaxL none [(al pr b e i j).1, (al pr b e i j).2.1, (al pr b e i j).2.2]) (some (pr i j)), vplus (vmax (vplus (vmax (al pr b e i (j + 1)).1 (al pr b e i (j + 1)).2.2) (some b)) (al pr b e i (j + 1)).2.1) (some e), vplus (vmax (vplus (vmax (al pr b e (i + 1) j).1 (al pr b e (i + 1) j).2.1) (some b)) (al pr b e (i + 1) j).2.2) (some e))
termination_by i j => (i, j)
theorem vmaxL_vb {d N : Nat} {l : List (Option Rat)} (h : ∀ v ∈ l, VB d N v) : VB d N (vmaxL none l) := by
  rcases (vmaxL_none l).2 with e | e
  · rw [e]; exact VB.none
  · exact h _ e
theorem al_vb {d N : Nat} (hd : d ≠ 0) {pr : Nat → Nat → Rat} {b e : Rat} (hp : ∀ i j, Bd d N (pr i j)) (hb : Bd d N b) (he : Bd d N e) : ∀ i j, VB d ((i + j) * (N + N)) (al pr b e i j).1 ∧ VB d ((i + j) * (N + N)) (al pr b e i j).2.1 ∧ VB d ((i + j) * (N + N)) (al pr b e i j).2.2
  | 0, 0 => by rw [al]; exact ⟨VB.some Bd.zero, VB.none, VB.none⟩
  | 0, j + 1 => by
    obtain ⟨h1, h2, h3⟩ := al_vb hd hp hb he 0 j
    rw [al]
    refine ⟨VB.none, VB.none, ?_⟩
    have := VB.plus hd (VB.max (VB.plus hd (VB.max h1 h2) (VB.some hb)) (h3.mono (Nat.le_add_right _ N))) (VB.some he)
    refine this.mono ?_
    rw [← Nat.add_assoc 0 j 1, Nat.succ_mul]; omega
  | i + 1, 0 => by
    obtain ⟨h1, h2, h3⟩ := al_vb hd hp hb he i 0
    rw [Nat.add_zero] at h1 h2 h3
    rw [al]
    refine ⟨VB.none, ?_, VB.none⟩
    have := VB.plus hd (VB.max (VB.plus hd (VB.max h1 h3) (VB.some hb)) (h2.mono (Nat.le_add_right _ N))) (VB.some he)
    refine this.mono ?_
    rw [Nat.add_zero, Nat.succ_mul]; omega
  | i + 1, j + 1 => by
    obtain ⟨a1, a2, a3⟩ := al_vb hd hp hb he i j
    obtain ⟨b1, b2, b3⟩ := al_vb hd hp hb he i (j + 1)
    obtain ⟨c1, c2, c3⟩ := al_vb hd hp hb he (i + 1) j
    rw [al]
    refine ⟨?_, ?_, ?_⟩
    · have := VB.plus hd (vmaxL_vb (l := [(al pr b e i j).1, (al pr b e i j).2.1, (al pr b e i j).2.2]) (fun v hv => by
        simp only [List.mem_cons, List.mem_nil_iff, or_false] at hv
        rcases hv with rfl | rfl | rfl
        · exact a1
        · exact a2
        · exact a3)) (VB.some (hp i j))
      refine this.mono ?_
      rw [show i + 1 + (j + 1) = (i + j) + 1 + 1 by omega, Nat.succ_mul, Nat.succ_mul]; omega
    · have := VB.plus hd (VB.max (VB.plus hd (VB.max b1 b3) (VB.some hb)) (b2.mono (Nat.le_add_right _ N))) (VB.some he)
      refine this.mono ?_
      rw [show i + 1 + (j + 1) = (i + (j + 1)) + 1 by omega, Nat.succ_mul]; omega
    · have := VB.plus hd (VB.max (VB.plus hd (VB.max c1 c2) (VB.some hb)) (c3.mono (Nat.le_add_right _ N))) (VB.some he)
      refine this.mono ?_
      rw [show i + 1 + (j + 1) = (i + 1 + j) + 1 by omega, Nat.succ_mul]; omega
termination_by i j => (i, j)
def stF (F : Nat → Nat → Option Rat) (i j : Nat) : Nat → Nat → Option Rat := fun r c => if r < i ∨ (r = i ∧ c < j) then F r c else none
def upd2 (G : Nat → Nat → Option Rat) (a b : Nat) (v : Option Rat) : Nat → Nat → Option Rat := fun r c => if r = a ∧ c = b then v else G r c
theorem lol_set (n m : Nat) (G : Nat → Nat → Option Rat) (a b : Nat) (v : Option Rat) : D.lst (((List.range n).map fun i => D.lst ((List.range m).map fun j => vD (G i j))).set a (.lst (((List.range m).map fun j => vD (G a j)).set b (vD v)))) = lolD n m (upd2 G a b v) := by
  rw [map_range_set, map_range_set]
  refine congrArg D.lst (range_congr fun r _ => ?_)
  by_cases e : r = a
  · subst e
    rw [if_pos rfl]
    refine congrArg D.lst (range_congr fun c _ => ?_)
    unfold upd2
    by_cases e : c = b
    · rw [if_pos e, if_pos ⟨rfl, e⟩]
    · rw [if_neg e, if_neg fun z => e z.2]
  · rw [if_neg e]
    refine congrArg D.lst (range_congr fun c _ => ?_)
    unfold upd2
    rw [if_neg fun z => e z.1]
theorem lol_snoc (n m : Nat) (F : Nat → Nat → Option Rat) : D.lst (((List.range n).map fun i => D.lst ((List.range m).map fun j => vD (F i j))) ++ [.lst (repL (m : Int) [.non])]) = lolD (n + 1) m (stF F n 0) := by
  have e : repL (m : Int) [.non] = (List.range m).map fun _ => D.non := by
    unfold repL
    rw [Int.toNat_natCast]
    induction m with
    | zero => rfl
    | succ m ih => rw [List.replicate_succ', List.flatten_append, ih, List.range_succ, List.map_append]; rfl
  rw [e]
  unfold lolD
  rw [List.range_succ, List.map_append]
  refine congrArg D.lst ?_
  congr 1
  · refine range_congr fun r hr => congrArg D.lst (range_congr fun c _ => ?_)
    unfold stF
    rw [if_pos (.inl hr)]
  · refine congrArg (fun x => [D.lst x]) (range_congr fun c _ => ?_)
    show _ = vD (stF F n 0 n c)
    unfold stF
    rw [if_neg (by omega)]; rfl
theorem st_next {F : Nat → Nat → Option Rat} {i j n m : Nat} (hn : n = i + 1) : lolD n m (upd2 (stF F i j) i j (F i j)) = lolD n m (stF F i (j + 1)) := lolD_congr fun r c hr _ => by
  unfold upd2 stF
  by_cases e : r = i ∧ c = j
  · rw [if_pos e, e.1, e.2, if_pos (by omega)]
  · rw [if_neg e]
    by_cases h : r < i ∨ (r = i ∧ c < j)
    · rw [if_pos h, if_pos (by omega)]
    · rw [if_neg h, if_neg (by omega)]
theorem st_skip {F : Nat → Nat → Option Rat} {i j n m : Nat} (h0 : F i j = none) : lolD n m (stF F i j) = lolD n m (stF F i (j + 1)) := lolD_congr fun r c hr _ => by
  unfold stF
  by_cases h : r < i ∨ (r = i ∧ c < j)
  · rw [if_pos h, if_pos (by omega)]
  · rw [if_neg h]
    by_cases e : r = i ∧ c = j
    · rw [if_pos (by omega), e.1, e.2, h0]
    · rw [if_neg (by omega)]
theorem st_done {F : Nat → Nat → Option Rat} {i m : Nat} : lolD (i + 1) m (stF F i m) = lolD (i + 1) m F := lolD_congr fun r c hr hc => by
  unfold stF
  rw [if_pos (by omega)]
theorem st_old {F : Nat → Nat → Option Rat} {i j r c : Nat} (h : r < i ∨ (r = i ∧ c < j)) : stF F i j r c = F r c := if_pos h
theorem oRep_non {m : Nat} (h : m ≤ 1000) : oRep (.lst [.non]) (.int m) = some (.lst (repL (m : Int) [.non])) := by
  show (if rep1 (m : Int) [.non] = true then _ else _) = _
  rw [rep1_of (by omega) (by omega) (by decide)]; rfl
end FL.L
set_option maxRecDepth 100000
set_option maxHeartbeats 800000
noncomputable section
namespace FL.L
open PySem PySem.Spec PyProof.Rows L2 FL
section
variable {k : Nat} {p : Nat → Nat → Rat} {b e : Rat}
theorem ixN_0 {n : Nat} (h : 0 < n) : ixN n (0 : Int) = some 0 := ixN_nat h
theorem plus_evR {a : Option Rat} {q : Rat} (ha : V0 a) (hq : R0 q) (t : Tape) : F_values_plus [vD a, rD q] t = some (vD (vplus a (some q)), t) := plus_ev ha (V0.some hq) t
theorem xf_letters {K : Kt D} : @wFldX "Score" "letters" (scD k p b e) K = K.k (.str (wS (ltrs k))) := fld_letters
theorem xf_values {K : Kt D} : @wFldX "Score" "values" (scD k p b e) K = K.k (tabD k k fun i j => some (p i j)) := fld_values
theorem xf_begin {K : Kt D} : @wFldX "Score" "begin" (scD k p b e) K = K.k (rD b) := fld_begin
theorem xf_each {K : Kt D} : @wFldX "Score" "each" (scD k p b e) K = K.k (rD e) := fld_each
theorem xm_sc {m : Str} {A : Pr} (hm : (["letters", "values", "begin", "each"] : List Str).contains m = false) : @wMethX "Score" m (scD k p b e) A = A.p := meth_sc hm
/-- the value of the letters at two places -/
def prs (p : Nat → Nat → Rat) (u v : List Nat) (i j : Nat) : Rat := p ((u[i]?).getD 0) ((v[j]?).getD 0)
theorem tables_ev (hk : k = 2 ∨ k = 3) {u v : List Nat} (hu : ∀ a ∈ u, a < k) (hv : ∀ a ∈ v, a < k) (lu : u.length ≤ 30) (lv : v.length ≤ 30) {d N : Nat} (hd : 0 < d) (hd2 : d < 2 ^ 200) (hN : N < 2 ^ 100) (hp : ∀ i j, Bd d N (p i j)) (hb : Bd d N b) (he : Bd d N e) (t : Tape) :
    F_align_Score_tables [scD k p b e, .str (wS u), .str (wS v)] t = some (.tup [lolD (u.length + 1) (v.length + 1) (fun i j => (al (prs p u v) b e i j).1), lolD (u.length + 1) (v.length + 1) (fun i j => (al (prs p u v) b e i j).2.1), lolD (u.length + 1) (v.length + 1) (fun i j => (al (prs p u v) b e i j).2.2)], t) := by
  obtain ⟨m, hm⟩ : ∃ m, m = v.length + 1 := ⟨_, rfl⟩
  have hmi : ((v.length : Int) + 1) = (m : Int) := by omega
  have hni : ((u.length : Int) + 1) = ((u.length + 1 : Nat) : Int) := by omega
  have hr1 := range1 (n := u.length + 1) (by omega)
  have hr2 := range1 (n := m) (by omega)
  have hvb := al_vb (d := d) (N := N) (by omega) (pr := prs p u v) (b := b) (e := e) (fun i j => hp _ _) hb he
  have big : ∀ i j, i ≤ 31 → j ≤ 31 → (i + j) * (N + N) + N + N < 2 ^ 200 := fun i j hi hj => by
    have : (i + j) * (N + N) ≤ 62 * (N + N) := Nat.mul_le_mul_right _ (by omega)
    omega
  obtain ⟨M, hM⟩ : ∃ M : Nat → Nat → Option Rat, M = fun i j => (al (prs p u v) b e i j).1 := ⟨_, rfl⟩
  obtain ⟨L, hL⟩ : ∃ L : Nat → Nat → Option Rat, L = fun i j => (al (prs p u v) b e i j).2.1 := ⟨_, rfl⟩
  obtain ⟨R, hR⟩ : ∃ R : Nat → Nat → Option Rat, R = fun i j => (al (prs p u v) b e i j).2.2 := ⟨_, rfl⟩
  have vM : ∀ i j, VB d ((i + j) * (N + N)) (M i j) := fun i j => by rw [hM]; exact (hvb i j).1
  have vL : ∀ i j, VB d ((i + j) * (N + N)) (L i j) := fun i j => by rw [hL]; exact (hvb i j).2.1
  have vR : ∀ i j, VB d ((i + j) * (N + N)) (R i j) := fun i j => by rw [hR]; exact (hvb i j).2.2
  have M00 : M 0 0 = some 0 := by rw [hM]; simp only [al]
  have M0j : ∀ j, M 0 (j + 1) = none := fun j => by rw [hM]; simp only [al]
  have Mi0 : ∀ i, M (i + 1) 0 = none := fun i => by rw [hM]; simp only [al]
  have L0j : ∀ j, L 0 j = none := fun j => by rw [hL]; cases j <;> simp only [al]
  have Ri0 : ∀ i, R i 0 = none := fun i => by rw [hR]; cases i <;> simp only [al]
  have Mij : ∀ i j, M (i + 1) (j + 1) = vplus (vmaxL none [M i j, L i j, R i j]) (some (prs p u v i j)) := fun i j => by rw [hM, hL, hR]; simp only [al]
  have Lij : ∀ i j, L (i + 1) j = vplus (vmax (vplus (vmax (M i j) (R i j)) (some b)) (L i j)) (some e) := fun i j => by rw [hM, hL, hR]; cases j <;> simp only [al]
  have Rij : ∀ i j, R i (j + 1) = vplus (vmax (vplus (vmax (M i j) (L i j)) (some b)) (R i j)) (some e) := fun i j => by rw [hM, hL, hR]; cases i <;> simp only [al]
  have eT : (D.tup [lolD (u.length + 1) (v.length + 1) (fun i j => (al (prs p u v) b e i j).1), lolD (u.length + 1) (v.length + 1) (fun i j => (al (prs p u v) b e i j).2.1), lolD (u.length + 1) (v.length + 1) (fun i j => (al (prs p u v) b e i j).2.2)]) = .tup [lolD (u.length + 1) m M, lolD (u.length + 1) m L, lolD (u.length + 1) m R] := by rw [hM, hL, hR, hm]
  rw [eT]
  clear eT hM hL hR hvb
  refine wp_eq ?_
  simp_all! [F_align_Score_tables, m_align_Score_tables, y_meth, xm_sc hm_check, check_words_ev hu hv lu lv, gLen_wS (show v.length ≤ 100000 by omega), gLen_wS (show u.length ≤ 100000 by omega), Nat.zero_le, hmi, hni, hr1]
  refine wp_forR _ (fun i ρ t' => t' = t ∧ ∃ x7 x8 x9 x10, ρ = [some (scD k p b e), some (.str (wS u)), some (.str (wS v)), some (.int m), some (lolD i m M), some (lolD i m L), some (lolD i m R), x7, x8, x9, x10]) ⟨rfl, none, none, none, none, rfl⟩ (fun i ρ t' hi ⟨ht, x7, x8, x9, x10, hρ⟩ => ?_) (fun ρ t' ⟨ht, x7, x8, x9, x10, hρ⟩ => ?_)
  · subst ht hρ
    have hi3 : i ≤ 100000 := by omega
    simp_all! [oRep_non (show m ≤ 1000 by omega), x_lol, hi3, lol_snoc, hr2, Nat.reduceLeDiff]
    refine wp_forR _ (fun j ρ t2 => t2 = t' ∧ ∃ x8 x9 x10, ρ = [some (scD k p b e), some (.str (wS u)), some (.str (wS v)), some (.int m), some (lolD (i + 1) m (stF M i j)), some (lolD (i + 1) m (stF L i j)), some (lolD (i + 1) m (stF R i j)), some (.int i), x8, x9, x10]) ⟨rfl, x8, x9, x10, rfl⟩ (fun j ρ t2 hj ⟨ht, x8, x9, x10, hρ⟩ => ?_) (fun ρ t2 ⟨ht, x8, x9, x10, hρ⟩ => ?_)
    · subst ht hρ
      have hi1 : i ≤ 31 := by omega
      have hj1 : j ≤ 31 := by omega
      have q0 : ∀ {x : Option Rat} {a c : Nat}, a ≤ 31 → c ≤ 31 → VB d ((a + c) * (N + N)) x → V0 x := fun ha hc h => h.v0 hd hd2 (by have := big _ _ ha hc; omega)
      have q1 : ∀ {x : Option Rat} {a c : Nat}, a ≤ 31 → c ≤ 31 → VB d ((a + c) * (N + N) + N) x → V0 x := fun ha hc h => h.v0 hd hd2 (by have := big _ _ ha hc; omega)
      have rb : R0 b := hb.r0 hd hd2 (by omega)
      have re : R0 e := he.r0 hd hd2 (by omega)
      cases i with
      | zero =>
        cases j with
        | zero =>
          have e1 : lolD 1 m (upd2 (stF M 0 0) 0 0 (some 0)) = lolD 1 m (stF M 0 (0 + 1)) := by rw [← M00]; exact st_next rfl
          have e2 : lolD 1 m (stF L 0 0) = lolD 1 m (stF L 0 (0 + 1)) := st_skip (L0j 0)
          have e3 : lolD 1 m (stF R 0 0) = lolD 1 m (stF R 0 (0 + 1)) := st_skip (Ri0 0)
          simp_all! [zero_vD, x_lol, ixN_0 (show 0 < 0 + 1 by omega), ixN_0 (show 0 < m by omega), range_at _ (show 0 < 0 + 1 by omega), range_at _ (show 0 < m by omega), lol_set, Int.reduceLT]
          exact ⟨_, _, _, by rw [e1, e2, e3]⟩
        | succ j =>
          have d1 : decide (((j + 1 : Nat) : Int) = 0) = false := decide_eq_false (by omega)
          have d2 : decide ((0 : Int) < ((j + 1 : Nat) : Int)) = true := decide_eq_true (by omega)
          have d3 : (((j + 1 : Nat) : Int)) - 1 = (j : Int) := by omega
          have sM : stF M 0 (j + 1) 0 j = M 0 j := st_old (by omega)
          have sL : stF L 0 (j + 1) 0 j = L 0 j := st_old (by omega)
          have sR : stF R 0 (j + 1) 0 j = R 0 j := st_old (by omega)
          have e1 : lolD 1 m (stF M 0 (j + 1)) = lolD 1 m (stF M 0 (j + 1 + 1)) := st_skip (M0j j)
          have e2 : lolD 1 m (stF L 0 (j + 1)) = lolD 1 m (stF L 0 (j + 1 + 1)) := st_skip (L0j _)
          have e3 : lolD 1 m (upd2 (stF R 0 (j + 1)) 0 (j + 1) (vplus (vmax (vplus (vmax (M 0 j) (L 0 j)) (some b)) (R 0 j)) (some e))) = lolD 1 m (stF R 0 (j + 1 + 1)) := by rw [← Rij 0 j]; exact st_next rfl
          have b1 := VB.max (vM 0 j) (vL 0 j)
          have b2 := VB.plus (by omega) b1 (VB.some hb)
          have b3 := VB.max b2 ((vR 0 j).mono (Nat.le_add_right _ N))
          have h1 := greater_ev (q0 (by omega) (by omega) (vM 0 j)) (q0 (by omega) (by omega) (vL 0 j)) t2
          have h2 := plus_evR (q0 (by omega) (by omega) b1) rb t2
          have h3 := greater_ev (q1 (by omega) (by omega) b2) (q0 (by omega) (by omega) (vR 0 j)) t2
          have h4 := plus_evR (q1 (by omega) (by omega) b3) re t2
          have x0 := fun F => ix_lol m (stF F 0 (j + 1)) (show 0 < 0 + 1 by omega)
          have x1 := fun F => ix_lrow (m := m) (stF F 0 (j + 1) 0) (show j < m by omega)
          simp only [Int.natCast_zero] at x0
          simp_all! [d1, d2, d3, x0, x1, sM, sL, sR, h1, h2, h3, h4, pln_vD, y_fld, xf_begin, xf_each, x_lol, ixN_0 (show 0 < 0 + 1 by omega), ixN_nat hj, range_at _ (show 0 < 0 + 1 by omega), lol_set, Int.reduceLT]
          exact ⟨_, _, _, by rw [e1, e2, e3]⟩
      | succ i =>
        have c1 : decide (((i + 1 : Nat) : Int) = 0) = false := decide_eq_false (by omega)
        have c2 : decide ((0 : Int) < ((i + 1 : Nat) : Int)) = true := decide_eq_true (by omega)
        have c3 : (((i + 1 : Nat) : Int)) - 1 = (i : Int) := by omega
        have x0 := fun F j => ix_lol m (stF F (i + 1) j) (show i < i + 1 + 1 by omega)
        have x0' := fun F j => ix_lol m (stF F (i + 1) j) (show i + 1 < i + 1 + 1 by omega)
        have hi2 : i + 1 < i + 1 + 1 := by omega
        cases j with
        | zero =>
          have x1 := fun F r => ix_lrow (m := m) (stF F (i + 1) 0 r) hj
          simp only [Int.natCast_zero] at x1
          have sM : stF M (i + 1) 0 i 0 = M i 0 := st_old (by omega)
          have sL : stF L (i + 1) 0 i 0 = L i 0 := st_old (by omega)
          have sR : stF R (i + 1) 0 i 0 = R i 0 := st_old (by omega)
          have e1 : lolD (i + 1 + 1) m (stF M (i + 1) 0) = lolD (i + 1 + 1) m (stF M (i + 1) (0 + 1)) := st_skip (Mi0 i)
          have e2 : lolD (i + 1 + 1) m (upd2 (stF L (i + 1) 0) (i + 1) 0 (vplus (vmax (vplus (vmax (M i 0) (R i 0)) (some b)) (L i 0)) (some e))) = lolD (i + 1 + 1) m (stF L (i + 1) (0 + 1)) := by rw [← Lij i 0]; exact st_next rfl
          have e3 : lolD (i + 1 + 1) m (stF R (i + 1) 0) = lolD (i + 1 + 1) m (stF R (i + 1) (0 + 1)) := st_skip (Ri0 _)
          have b1 := VB.max (vM i 0) (vR i 0)
          have b2 := VB.plus (by omega) b1 (VB.some hb)
          have b3 := VB.max b2 ((vL i 0).mono (Nat.le_add_right _ N))
          have h1 := greater_ev (q0 (by omega) (by omega) (vM i 0)) (q0 (by omega) (by omega) (vR i 0)) t2
          have h2 := plus_evR (q0 (by omega) (by omega) b1) rb t2
          have h3 := greater_ev (q1 (by omega) (by omega) b2) (q0 (by omega) (by omega) (vL i 0)) t2
          have h4 := plus_evR (q1 (by omega) (by omega) b3) re t2
          simp_all! [c1, c2, c3, x0, x1, sM, sL, sR, h1, h2, h3, h4, pln_vD, y_fld, xf_begin, xf_each, x_lol, ixN_nat hi2, ixN_0 hj, range_at _ hi2, lol_set, Int.reduceLT]
          exact ⟨_, _, _, by rw [e1, e2, e3]⟩
        | succ j =>
          have d1 : decide (((j + 1 : Nat) : Int) = 0) = false := decide_eq_false (by omega)
          have d2 : decide ((0 : Int) < ((j + 1 : Nat) : Int)) = true := decide_eq_true (by omega)
          have d3 : (((j + 1 : Nat) : Int)) - 1 = (j : Int) := by omega
          have x1 := fun F k r => ix_lrow (m := m) (stF F (i + 1) k r) hj
          have x1' := fun F k r => ix_lrow (m := m) (stF F (i + 1) k r) (show j < m by omega)
          have sM1 : stF M (i + 1) (j + 1) i j = M i j := st_old (by omega)
          have sL1 : stF L (i + 1) (j + 1) i j = L i j := st_old (by omega)
          have sR1 : stF R (i + 1) (j + 1) i j = R i j := st_old (by omega)
          have sM2 : stF M (i + 1) (j + 1 + 1) i (j + 1) = M i (j + 1) := st_old (by omega)
          have sL2 : stF L (i + 1) (j + 1) i (j + 1) = L i (j + 1) := st_old (by omega)
          have sR2 : stF R (i + 1) (j + 1) i (j + 1) = R i (j + 1) := st_old (by omega)
          have sM3 : stF M (i + 1) (j + 1 + 1) (i + 1) j = M (i + 1) j := st_old (by omega)
          have sL3 : stF L (i + 1) (j + 1 + 1) (i + 1) j = L (i + 1) j := st_old (by omega)
          have sR3 : stF R (i + 1) (j + 1) (i + 1) j = R (i + 1) j := st_old (by omega)
          have e1 : lolD (i + 1 + 1) m (upd2 (stF M (i + 1) (j + 1)) (i + 1) (j + 1) (vplus (vmaxL none [M i j, L i j, R i j]) (some (prs p u v i j)))) = lolD (i + 1 + 1) m (stF M (i + 1) (j + 1 + 1)) := by rw [← Mij i j]; exact st_next rfl
          have e2 : lolD (i + 1 + 1) m (upd2 (stF L (i + 1) (j + 1)) (i + 1) (j + 1) (vplus (vmax (vplus (vmax (M i (j + 1)) (R i (j + 1))) (some b)) (L i (j + 1))) (some e))) = lolD (i + 1 + 1) m (stF L (i + 1) (j + 1 + 1)) := by rw [← Lij i (j + 1)]; exact st_next rfl
          have e3 : lolD (i + 1 + 1) m (upd2 (stF R (i + 1) (j + 1)) (i + 1) (j + 1) (vplus (vmax (vplus (vmax (M (i + 1) j) (L (i + 1) j)) (some b)) (R (i + 1) j)) (some e))) = lolD (i + 1 + 1) m (stF R (i + 1) (j + 1 + 1)) := by rw [← Rij (i + 1) j]; exact st_next rfl
          have ui : u[i]? = some (u[i]'(by omega)) := List.getElem?_eq_getElem (by omega)
          have vj : v[j]? = some (v[j]'(by omega)) := List.getElem?_eq_getElem (by omega)
          have y1 := oIx_wS (show u.length ≤ 100000 by omega) ui
          have y2 := oIx_wS (show v.length ≤ 100000 by omega) vj
          have y3 := pair_ev (p := p) (b := b) (e := e) hk (hu _ (List.getElem_mem (show i < u.length by omega))) (hv _ (List.getElem_mem (show j < v.length by omega))) t2
          have y4 : p (u[i]'(by omega)) (v[j]'(by omega)) = prs p u v i j := by unfold prs; rw [ui, vj]; rfl
          rw [y4] at y3
          have g0 := greatest_evL (l := [M i j, L i j, R i j]) (fun x hx => by
            simp only [List.mem_cons, List.mem_nil_iff, or_false] at hx
            rcases hx with rfl | rfl | rfl
            · exact q0 (by omega) (by omega) (vM i j)
            · exact q0 (by omega) (by omega) (vL i j)
            · exact q0 (by omega) (by omega) (vR i j)) t2
          simp only [List.map_cons, List.map_nil] at g0
          have g1 := plus_evR (q0 (a := i) (c := j) (by omega) (by omega) (vmaxL_vb (l := [M i j, L i j, R i j]) (fun x hx => by
            simp only [List.mem_cons, List.mem_nil_iff, or_false] at hx
            rcases hx with rfl | rfl | rfl
            · exact vM i j
            · exact vL i j
            · exact vR i j))) (show R0 (prs p u v i j) from (hp _ _).r0 hd hd2 (by omega)) t2
          have b1 := VB.max (vM i (j + 1)) (vR i (j + 1))
          have b2 := VB.plus (by omega) b1 (VB.some hb)
          have b3 := VB.max b2 ((vL i (j + 1)).mono (Nat.le_add_right _ N))
          have h1 := greater_ev (q0 (by omega) (by omega) (vM i (j + 1))) (q0 (by omega) (by omega) (vR i (j + 1))) t2
          have h2 := plus_evR (q0 (by omega) (by omega) b1) rb t2
          have h3 := greater_ev (q1 (by omega) (by omega) b2) (q0 (by omega) (by omega) (vL i (j + 1))) t2
          have h4 := plus_evR (q1 (by omega) (by omega) b3) re t2
          have a1 := VB.max (vM (i + 1) j) (vL (i + 1) j)
          have a2 := VB.plus (by omega) a1 (VB.some hb)
          have a3 := VB.max a2 ((vR (i + 1) j).mono (Nat.le_add_right _ N))
          have k1 := greater_ev (q0 (by omega) (by omega) (vM (i + 1) j)) (q0 (by omega) (by omega) (vL (i + 1) j)) t2
          have k2 := plus_evR (q0 (by omega) (by omega) a1) rb t2
          have k3 := greater_ev (q1 (by omega) (by omega) a2) (q0 (by omega) (by omega) (vR (i + 1) j)) t2
          have k4 := plus_evR (q1 (by omega) (by omega) a3) re t2
          simp_all! [c1, c2, c3, d1, d2, d3, x0, x0', x1, x1', sM1, sL1, sR1, sM2, sL2, sR2, sM3, sL3, sR3, Nat.reduceLeDiff, g0, g1, y_meth, xm_sc hm_pair, y1, y2, y3, h1, h2, h3, h4, k1, k2, k3, k4, pln_vD, pln_rD, y_fld, xf_begin, xf_each, x_lol, ixN_nat hi2, ixN_nat hj, range_at _ hi2, lol_set, e1, e2, e3]
          exact ⟨_, _, _, rfl⟩
    · subst ht hρ
      rw [st_done, st_done, st_done]
      exact ⟨rfl, _, _, _, _, rfl⟩
  · subst ht hρ
    simp_all! [Nat.reduceLeDiff]
end
end FL.L
set_option maxRecDepth 100000
set_option maxHeartbeats 800000
noncomputable section
namespace FL.L
open PySem PySem.Spec PyProof.Rows L2 FL
theorem plnL_lol (n m : Nat) (F : Nat → Nat → Option Rat) : plnL 2 (lolD n m F) = true := by
  show List.all _ _ = true
  rw [List.all_eq_true]
  intro d hd
  obtain ⟨i, _, rfl⟩ := List.mem_map.mp hd
  show List.all _ _ = true
  rw [List.all_eq_true]
  intro d hd
  obtain ⟨j, _, rfl⟩ := List.mem_map.mp hd
  exact pln_vD _
theorem ix_last {n : Nat} (φ : Nat → D) : oIx (.lst ((List.range (n + 1)).map φ)) (.int (-1)) = some (φ n) := by
  show atI _ _ = _
  rw [List.range_succ, List.map_append]
  exact atI_last _ _
theorem ix_lol_last (n m : Nat) (F : Nat → Nat → Option Rat) : oIx (lolD (n + 1) m F) (.int (-1)) = some (.lst ((List.range m).map fun j => vD (F n j))) := ix_last fun i => .lst ((List.range m).map fun j => vD (F i j))
/-- the greatest sum of laying words beside one another -/
def top3 (a : Option Rat × Option Rat × Option Rat) : Option Rat := vmaxL none [a.1, a.2.1, a.2.2]
def bestW (p : Nat → Nat → Rat) (b e : Rat) (u v : List Nat) : Option Rat := top3 (al (prs p u v) b e u.length v.length)
theorem bestW_vb {p : Nat → Nat → Rat} {b e : Rat} {u v : List Nat} {d N : Nat} (hd : d ≠ 0) (hp : ∀ i j, Bd d N (p i j)) (hb : Bd d N b) (he : Bd d N e) : VB d ((u.length + v.length) * (N + N)) (bestW p b e u v) := by
  obtain ⟨h1, h2, h3⟩ := al_vb (d := d) (N := N) hd (pr := prs p u v) (fun i j => hp _ _) hb he u.length v.length
  refine vmaxL_vb fun x hx => ?_
  simp only [List.mem_cons, List.mem_nil_iff, or_false] at hx
  rcases hx with rfl | rfl | rfl
  · exact h1
  · exact h2
  · exact h3
theorem best_ev {k : Nat} {p : Nat → Nat → Rat} {b e : Rat} (hk : k = 2 ∨ k = 3) {u v : List Nat} (hu : ∀ a ∈ u, a < k) (hv : ∀ a ∈ v, a < k) (lu : u.length ≤ 30) (lv : v.length ≤ 30) {d N : Nat} (hd : 0 < d) (hd2 : d < 2 ^ 200) (hN : N < 2 ^ 100) (hp : ∀ i j, Bd d N (p i j)) (hb : Bd d N b) (he : Bd d N e) (t : Tape) :
    F_align_Score_best [scD k p b e, .str (wS u), .str (wS v)] t = some (vD (bestW p b e u v), t) := by
  have ht := tables_ev hk hu hv lu lv hd hd2 hN hp hb he t
  have hvb := al_vb (d := d) (N := N) (by omega) (pr := prs p u v) (fun i j => hp _ _) hb he u.length v.length
  have big : (u.length + v.length) * (N + N) < 2 ^ 200 := by
    have : (u.length + v.length) * (N + N) ≤ 60 * (N + N) := Nat.mul_le_mul_right _ (by omega)
    omega
  have pT : plnT 2 (.tup [lolD (u.length + 1) (v.length + 1) (fun i j => (al (prs p u v) b e i j).1), lolD (u.length + 1) (v.length + 1) (fun i j => (al (prs p u v) b e i j).2.1), lolD (u.length + 1) (v.length + 1) (fun i j => (al (prs p u v) b e i j).2.2)]) = true := by
    show List.all _ _ = true
    simp only [List.all_cons, List.all_nil, plnL_lol, Bool.and_self]
  have g0 := greatest_evL (l := [(al (prs p u v) b e u.length v.length).1, (al (prs p u v) b e u.length v.length).2.1, (al (prs p u v) b e u.length v.length).2.2]) (fun x hx => by
    simp only [List.mem_cons, List.mem_nil_iff, or_false] at hx
    rcases hx with rfl | rfl | rfl
    · exact hvb.1.v0 hd hd2 big
    · exact hvb.2.1.v0 hd hd2 big
    · exact hvb.2.2.v0 hd hd2 big) t
  simp only [List.map_cons, List.map_nil] at g0
  refine wp_eq ?_
  simp_all! [F_align_Score_best, m_align_Score_best, y_methT, xm_sc hm_tables, ht, pT]
  refine wp_lc (α := Nat → Nat → Option Rat) [fun i j => (al (prs p u v) b e i j).1, fun i j => (al (prs p u v) b e i j).2.1, fun i j => (al (prs p u v) b e i j).2.2] (fun F => lolD (u.length + 1) (v.length + 1) F) (fun F => vD (F u.length v.length)) (fun F hF => ?_) ?_
  · simp_all! [ix_lol_last, ix_last]
  simp_all! [Nat.reduceLeDiff, g0, pln_vD]
  rfl
/-! no value of a beginning: one table -/
theorem vmax3 (a b c : Option Rat) : vmax (vplus (vmax a c) (some 0)) b = vmaxL none [a, b, c] := by
  rw [vplus_zero]
  refine vle_antisymm (vmax_le (vmax_le ?_ ?_) ?_) ?_
  · exact (vmaxL_none [a, b, c]).1 a (by simp)
  · exact (vmaxL_none [a, b, c]).1 c (by simp)
  · exact (vmaxL_none [a, b, c]).1 b (by simp)
  · rcases (vmaxL_none [a, b, c]).2 with e | e
    · rw [e]; trivial
    · simp only [List.mem_cons, List.mem_nil_iff, or_false] at e
      rcases e with e | e | e <;> rw [e]
      · exact vle_trans (vle_max1 a c) (vle_max1 _ _)
      · exact vle_max2 _ _
      · exact vle_trans (vle_max2 a c) (vle_max1 _ _)
theorem vmax3' (a b c : Option Rat) : vmax (vplus (vmax a b) (some 0)) c = vmaxL none [a, b, c] := by
  rw [vplus_zero]
  refine vle_antisymm (vmax_le (vmax_le ?_ ?_) ?_) ?_
  · exact (vmaxL_none [a, b, c]).1 a (by simp)
  · exact (vmaxL_none [a, b, c]).1 b (by simp)
  · exact (vmaxL_none [a, b, c]).1 c (by simp)
  · rcases (vmaxL_none [a, b, c]).2 with e | e
    · rw [e]; trivial
    · simp only [List.mem_cons, List.mem_nil_iff, or_false] at e
      rcases e with e | e | e <;> rw [e]
      · exact vle_trans (vle_max1 a b) (vle_max1 _ _)
      · exact vle_trans (vle_max2 a b) (vle_max1 _ _)
      · exact vle_max2 _ _
def tp3 (pr : Nat → Nat → Rat) (e : Rat) (i j : Nat) : Option Rat := top3 (al pr 0 e i j)
section
variable {pr : Nat → Nat → Rat} {e : Rat}
theorem tp3_00 : tp3 pr e 0 0 = some 0 := by unfold tp3 top3; simp only [al]; rfl
theorem top3_b (x : Option Rat) : vmaxL none [none, x, none] = x := by cases x <;> rfl
theorem top3_c (x : Option Rat) : vmaxL none [none, none, x] = x := by cases x <;> rfl
theorem tp3_0j (j : Nat) : tp3 pr e 0 (j + 1) = vplus (tp3 pr e 0 j) (some e) := by
  unfold tp3 top3
  rw [al]
  show vmaxL none [none, none, _] = _
  rw [top3_c, vmax3']
theorem tp3_i0 (i : Nat) : tp3 pr e (i + 1) 0 = vplus (tp3 pr e i 0) (some e) := by
  unfold tp3 top3
  rw [al]
  show vmaxL none [none, _, none] = _
  rw [top3_b, vmax3]
theorem tp3_ij (i j : Nat) : tp3 pr e (i + 1) (j + 1) = vmaxL none [vplus (tp3 pr e i j) (some (pr i j)), vplus (tp3 pr e i (j + 1)) (some e), vplus (tp3 pr e (i + 1) j) (some e)] := by
  show vmaxL none [(al pr 0 e (i + 1) (j + 1)).1, (al pr 0 e (i + 1) (j + 1)).2.1, (al pr 0 e (i + 1) (j + 1)).2.2] = _
  rw [al]
  show vmaxL none [vplus (vmaxL none [_, _, _]) _, vplus (vmax (vplus (vmax _ _) _) _) _, vplus (vmax (vplus (vmax _ _) _) _) _] = _
  rw [vmax3, vmax3']
  rfl
theorem al_congr {pr pr' : Nat → Nat → Rat} {b e : Rat} : ∀ (i j : Nat), (∀ r c, r < i → c < j → pr r c = pr' r c) → al pr b e i j = al pr' b e i j
  | 0, 0, _ => by rw [al, al]
  | 0, j + 1, h => by rw [al, al, al_congr 0 j fun r c hr hc => h r c hr (by omega)]
  | i + 1, 0, h => by rw [al, al, al_congr i 0 fun r c hr hc => h r c (by omega) hc]
  | i + 1, j + 1, h => by rw [al, al, al_congr i j fun r c hr hc => h r c (by omega) (by omega), al_congr i (j + 1) fun r c hr hc => h r c (by omega) hc, al_congr (i + 1) j fun r c hr hc => h r c hr (by omega), h i j (by omega) (by omega)]
termination_by i j => (i, j)
end
/-- of a part: from i to a, from j to b -/
theorem bestW_part {p : Nat → Nat → Rat} {e : Rat} {u v : List Nat} {i a j b : Nat} (h1 : i ≤ a) (h2 : a ≤ u.length) (h3 : j ≤ b) (h4 : b ≤ v.length) : bestW p 0 e ((u.drop i).take (a - i)) ((v.drop j).take (b - j)) = tp3 (fun r c => prs p u v (i + r) (j + c)) e (a - i) (b - j) := by
  have l1 : ((u.drop i).take (a - i)).length = a - i := by simp; omega
  have l2 : ((v.drop j).take (b - j)).length = b - j := by simp; omega
  unfold bestW tp3
  rw [l1, l2]
  congr 1
  refine al_congr _ _ fun r c hr hc => ?_
  unfold prs
  rw [List.getElem?_take, if_pos hr, List.getElem?_take, if_pos hc, List.getElem?_drop, List.getElem?_drop]
end FL.L
set_option maxRecDepth 100000
set_option maxHeartbeats 800000
noncomputable section
namespace FL.L
open PySem PySem.Spec PyProof.Rows L2 FL
theorem wp_num {t : Tape} {K : D × Tape → Prop} (ht : TOk t) (k : ∀ (q : Rat) (t' : Tape), Bd 6 6 q → TOk t' → K (rD q, t')) : wp (F_law_number [.tape] t) K := by
  obtain ⟨q, t', e, h1, h2⟩ := law_number_ev t ht
  exact wp_of e (k q t' h1 h2)
theorem norm_bd {d N : Nat} {a : Int} {b : Nat} (hb : b ≠ 0) (hd : b ∣ d) (ha : a.natAbs ≤ N) : Bd d N (Rat.normalize a b hb) := by
  refine ⟨Nat.dvd_trans (norm_den_dvd _ _ _) hd, ?_⟩
  rw [Rat.normalize_eq]
  show (a / _).natAbs ≤ N * (b / _)
  generalize hg : Nat.gcd a.natAbs b = g
  have hgb : g ∣ b := by rw [← hg]; exact Nat.gcd_dvd_right _ _
  have hga : (g : Int) ∣ a := by rw [← hg]; exact Int.ofNat_dvd_left.mpr (Nat.gcd_dvd_left _ _)
  obtain ⟨u, hu⟩ := hga
  obtain ⟨w, hw⟩ := hgb
  have hg0 : 0 < g := by
    rcases Nat.eq_zero_or_pos g with z | z
    · rw [z, Nat.zero_mul] at hw; exact absurd hw hb
    · exact z
  rw [hu, hw, Int.mul_ediv_cancel_left _ (by omega), Nat.mul_div_cancel_left _ hg0]
  rw [hu, Int.natAbs_mul, Int.natAbs_natCast] at ha
  have hw0 : 0 < w := by
    rcases Nat.eq_zero_or_pos w with z | z
    · rw [z, Nat.mul_zero] at hw; exact absurd hw hb
    · exact z
  have h1 : u.natAbs ≤ g * u.natAbs := Nat.le_mul_of_pos_left _ hg0
  have h2 : N ≤ N * w := Nat.le_mul_of_pos_right _ hw0
  omega
theorem norm_neg {a : Int} {b : Nat} (hb : b ≠ 0) (ha : a ≤ 0) : Rat.normalize a b hb ≤ 0 := by
  have : ¬ 0 < Rat.normalize a b hb := fun z => by
    have h := (Rat.lt_iff _ _).mp z
    rw [Rat.normalize_eq] at h
    simp at h
    have hg : (0 : Int) < (Nat.gcd a.natAbs b : Nat) := by
      have := Nat.gcd_pos_of_pos_right a.natAbs (show 0 < b by omega); omega
    have h2 : a / (Nat.gcd a.natAbs b : Nat) ≤ 0 := by
      rcases Int.lt_or_eq_of_le ha with z | z
      · exact Int.le_of_lt (Int.ediv_neg_of_neg_of_pos z hg)
      · rw [z, Int.zero_ediv]; exact Int.le_refl _
    omega
  exact Rat.not_lt.mp this
/-- drawn values and tables -/
theorem wp_value {t : Tape} {gaps : Int} {K : D × Tape → Prop} (ht : TOk t) (k : ∀ (v : Option Rat) (t' : Tape), VB 6 6 v → (gaps ≤ 0 → v ≠ none) → TOk t' → K (vD v, t')) : wp (F_law_value [.tape, .int gaps] t) K := by
  simp_all! [F_law_value, m_law_value]
  refine wp_draw ht (by decide) (by decide) fun i t1 h0 h1 ht1 => ?_
  simp_all! []
  refine iteK_split (fun h => ?_) fun h => ?_
  · simp_all! []
    exact k none t1 VB.none (fun z => by have := of_decide_eq_true h; omega) ht1
  · simp_all! []
    refine wp_num ht1 fun q t2 hq ht2 => ?_
    simp_all! [pln_rD]
    exact k (some q) t2 (VB.some hq) (fun _ z => by cases z) ht2
theorem list_range' {α : Type} (l : List α) (φ : α → D) (d : α) : l.map φ = (List.range l.length).map fun i => φ ((l[i]?).getD d) := by
  refine List.ext_getElem? fun i => ?_
  rw [List.getElem?_map, List.getElem?_map]
  by_cases h : i < l.length
  · rw [List.getElem?_range h, List.getElem?_eq_getElem h]
    show some (φ l[i]) = some (φ ((l[i]?).getD d))
    rw [List.getElem?_eq_getElem h]; rfl
  · rw [List.getElem?_eq_none (by omega), List.getElem?_eq_none (by simpa using h)]; rfl
theorem wp_table {t : Tape} {n m : Nat} {gaps : Int} {K : D × Tape → Prop} (ht : TOk t) (hn : n ≤ 1000) (hm : m ≤ 1000) (k : ∀ (f : Nat → Nat → Option Rat) (t' : Tape), (∀ i j, VB 6 6 (f i j)) → (gaps ≤ 0 → ∀ i j, i < n → j < m → f i j ≠ none) → TOk t' → K (tabD n m f, t')) :
    wp (F_law_table [.tape, .int n, .int m, .int gaps] t) K := by
  have hr1 := range1 (n := n) (by omega)
  have hr2 := range1 (n := m) (by omega)
  simp_all! [F_law_table, m_law_table, hr1]
  refine wp_lcDs (fun r : List (Option Rat) => D.tup (r.map vD)) (fun r => r.length = m ∧ ∀ v ∈ r, VB 6 6 v ∧ (gaps ≤ 0 → v ≠ none)) _ _ ht (fun i hi t ht => ?_) fun rows t' ht' hl hS => ?_
  · simp_all! [hr2]
    refine wp_lcDs vD (fun v => VB 6 6 v ∧ (gaps ≤ 0 → v ≠ none)) _ _ ht (fun j hj t ht => ?_) fun r t' ht' hl hS => ?_
    · simp_all! []
      refine wp_value ht fun v t' h1 h2 h3 => ?_
      simp_all! [pln_vD]
      exact ⟨v, rfl, h3, h1, h2⟩
    · rw [List.length_range] at hl
      simp_all! [show r.length ≤ 100000 by omega]
      exact ⟨r, rfl, ht', hl, hS⟩
  · rw [List.length_range] at hl
    obtain ⟨f, hf⟩ : ∃ f : Nat → Nat → Option Rat, f = fun i j => ((((rows[i]?).getD [])[j]?).getD none) := ⟨_, rfl⟩
    have eT : D.tup (rows.map fun r => D.tup (r.map vD)) = tabD n m f := by
      rw [list_range' rows _ [], hl]
      refine congrArg D.tup (range_congr fun i hi => ?_)
      have e1 : rows[i]? = some (rows[i]'(by omega)) := List.getElem?_eq_getElem (by omega)
      have hr := (hS _ (List.getElem_mem (show i < rows.length by omega))).1
      rw [hf, e1]
      show D.tup ((rows[i]'(by omega)).map vD) = rowD m _
      rw [list_range' _ _ none, hr]
      refine congrArg D.tup (range_congr fun j hj => ?_)
      show _ = vD ((((rows[i]?).getD [])[j]?).getD none)
      rw [e1]; rfl
    have hv : ∀ i j, VB 6 6 (f i j) := fun i j => by
      rw [hf]
      show VB 6 6 ((((rows[i]?).getD [])[j]?).getD none)
      cases e1 : rows[i]? with
      | none => exact VB.none
      | some r =>
        show VB 6 6 ((r[j]?).getD none)
        cases e2 : r[j]? with
        | none => exact VB.none
        | some v => exact ((hS r (List.mem_of_getElem? e1)).2 v (List.mem_of_getElem? e2)).1
    simp_all! [show rows.length ≤ 100000 by omega, eT]
    refine k f t' hv (fun hg i j hi hj => ?_) ht'
    rw [hf]
    show ((((rows[i]?).getD [])[j]?).getD none) ≠ none
    have e1 : rows[i]? = some (rows[i]'(by omega)) := List.getElem?_eq_getElem (by omega)
    have hr := hS _ (List.getElem_mem (show i < rows.length by omega))
    rw [e1]
    show (((rows[i]'(by omega))[j]?).getD none) ≠ none
    have e2 : (rows[i]'(by omega))[j]? = some ((rows[i]'(by omega))[j]'(by rw [hr.1]; exact hj)) := List.getElem?_eq_getElem _
    rw [e2]
    exact (hr.2 _ (List.getElem_mem _)).2 hg
/-- a drawn letter, a drawn word -/
theorem wp_pickS {t : Tape} {l : List Nat} {K : D × Tape → Prop} (ht : TOk t) (h0 : l ≠ []) (hl : l.length ≤ 1000) (k : ∀ (a : Nat) (t' : Tape), a ∈ l → TOk t' → K (.str (wS [a]), t')) : wp (F_law_pick [.tape, .str (wS l)] t) K := by
  have hpos : 0 < l.length := List.length_pos_iff.mpr h0
  simp_all! [F_law_pick, m_law_pick, gLen_wS (show l.length ≤ 100000 by omega)]
  refine wp_draw ht (by omega) (by omega) fun i t' h1 h2 ht' => ?_
  obtain ⟨n, rfl⟩ : ∃ n : Nat, i = n := ⟨i.toNat, by omega⟩
  have e : l[n]? = some (l[n]'(by omega)) := List.getElem?_eq_getElem (by omega)
  simp_all! [oIx_wS (show l.length ≤ 100000 by omega) e]
  exact k _ t' (List.getElem_mem _) ht'
theorem wp_word {t : Tape} {l : List Nat} {most : Nat} {K : D × Tape → Prop} (ht : TOk t) (h0 : l ≠ []) (hl : l.length ≤ 1000) (hm : most ≤ 1000) (k : ∀ (w : List Nat) (t' : Tape), (∀ a ∈ w, a ∈ l) → w.length ≤ most → TOk t' → K (.str (wS w), t')) : wp (F_law_word [.tape, .str (wS l), .int most] t) K := by
  simp_all! [F_law_word, m_law_word, y_bm]
  refine wp_draw ht (by omega) (by omega) fun i t' h1 h2 ht' => ?_
  obtain ⟨n, rfl⟩ : ∃ n : Nat, i = n := ⟨i.toNat, by omega⟩
  have hr := range1 (n := n) (by omega)
  simp_all! [hr]
  refine wp_lcDs (fun a : Nat => D.str (wS [a])) (fun a => a ∈ l) _ _ ht' (fun j hj t ht => ?_) fun w t2 ht2 hwl hS => ?_
  · simp_all! []
    refine wp_pickS ht h0 hl fun a t' ha ht' => ?_
    simp_all! []
    exact ⟨a, rfl, ht', ha⟩
  · rw [List.length_range] at hwl
    simp_all! [show w.length ≤ 100000 by omega, wS_nil, gJoin_wS (show w.length ≤ 100000 by omega)]
    exact k w t2 hS (by omega) ht2
theorem wp_pick {t : Tape} {l : List D} {K : D × Tape → Prop} (ht : TOk t) (h0 : l ≠ []) (hl : l.length ≤ 100000) (hp : ∀ d ∈ l, pln 9 d = true) (k : ∀ (d : D) (t' : Tape), d ∈ l → TOk t' → K (d, t')) : wp (F_law_pick [.tape, .lst l] t) K := by
  obtain ⟨d, t', e, h1, h2⟩ := law_pick_ev t ht h0 hl hp
  exact wp_of e (k d t' h1 h2)
end FL.L
set_option maxRecDepth 100000
set_option maxHeartbeats 800000
noncomputable section
namespace FL.L
open PySem PySem.Spec PyProof.Rows L2 FL
/-! a score is made -/
theorem strOk_wS {l : List Nat} (h : ∀ a ∈ l, a < 1000) : PyData.strOk (wS l) = true := by
  unfold PyData.strOk wS
  rw [Array.all_eq_true]
  intro i hi
  simp at hi ⊢
  have := h _ (List.getElem_mem hi)
  omega
theorem oEq_str {x y : Str} (hx : PyData.strOk x = true) (hy : PyData.strOk y = true) : oEq (.str x) (.str y) = some (.bl (x == y)) := by
  show (if (PyData.strOk x && PyData.strOk y) = true then _ else _) = _
  rw [hx, hy]; rfl
theorem oNe_str {x y : Str} (hx : PyData.strOk x = true) (hy : PyData.strOk y = true) : oNe (.str x) (.str y) = some (.bl (!(x == y))) := by
  show (if (PyData.strOk x && PyData.strOk y) = true then _ else _) = _
  rw [hx, hy]; rfl
theorem ltrs_ok (k : Nat) (hk : k ≤ 8) : ∀ a ∈ ltrs k, a < 1000 := fun a ha => by
  have := List.mem_range.mp ha; omega
theorem ltrs_cut {k : Nat} (hk : k = 2 ∨ k = 3) : oSlT d_align_LETTERS none (some (k : Int)) = some (.str (wS (ltrs k))) := by
  have h1 : cutS ("abcdefgh" : Str) none (some ((2 : Nat) : Int)) = wS (ltrs 2) := by decide +kernel
  have h2 : cutS ("abcdefgh" : Str) none (some ((3 : Nat) : Int)) = wS (ltrs 3) := by decide +kernel
  have h3 : (("abcdefgh" : Str)).length ≤ 100000 := by decide +kernel
  show (if sml _ = true then _ else _) = _
  rw [sml_of h3, if_pos rfl]
  rcases hk with rfl | rfl
  · rw [h1]
  · rw [h2]
theorem ltrs_ne {k : Nat} (hk : k = 2 ∨ k = 3) : oEq (.str (wS (ltrs k))) (.str "") = some (.bl false) := by
  rw [oEq_str (strOk_wS (ltrs_ok k (by omega))) (by decide +kernel)]
  rcases hk with rfl | rfl
  · congr 2
  · congr 2
theorem ltrs_self {k : Nat} (hk : k ≤ 8) : oNe (.str (wS (ltrs k))) (.str (wS (ltrs k))) = some (.bl false) := by
  rw [oNe_str (strOk_wS (ltrs_ok k hk)) (strOk_wS (ltrs_ok k hk))]
  simp
theorem check_score_ev {k : Nat} {p : Nat → Nat → Rat} {b e : Rat} (hk : k = 2 ∨ k = 3) (hb : b ≤ 0) (he : e ≤ 0) (rb : R0 b) (re : R0 e) (t : Tape) :
    F_align_check_score [.str (wS (ltrs k)), tabD k k fun i j => some (p i j), rD b, rD e] t = some (.non, t) := by
  have hk3 : k ≤ 100000 := by omega
  have gl : gLen [.str (wS (ltrs k))] = some (.int k) := by
    rw [gLen_wS (by unfold ltrs; simp; omega)]
    unfold ltrs; simp
  have hl : ∀ x : Rat, R0 x → x ≤ 0 → ∀ t, F_ratios_less [rD 0, rD x] t = some (.bl false, t) := fun x rx hx t => by
    rw [less_ev R0_zero rx, decide_eq_false (Rat.not_lt.mpr hx)]
  refine wp_eq ?_
  simp_all! [F_align_check_score, m_align_check_score, ltrs_ne hk, gl, ltrs_cut hk, ltrs_self (show k ≤ 8 by omega), isi_tab, gLen_tab, oNe_refl, items_tab]
  refine wp_forR _ (fun i ρ t' => t' = t ∧ ∃ x4 x5, ρ = [some (.str (wS (ltrs k))), some (tabD k k fun i j => some (p i j)), some (rD b), some (rD e), x4, x5]) ⟨rfl, none, none, rfl⟩ (fun i ρ t' hi ⟨ht, x4, x5, hρ⟩ => ?_) (fun ρ t' ⟨ht, x4, x5, hρ⟩ => ?_)
  · subst ht hρ
    simp_all! [isi_row, gLen_row, gl, oNe_refl, items_row]
    refine wp_lcR _ (fun _ => .bl true) (fun j hj => ?_) ?_
    · simp_all! [show ∀ q, vD (some q) = rD q from fun _ => rfl, is_ratio_ev]
    simp_all! [hk3, gAll, bls_map_true, all_const_true, Option.map_some]
    exact ⟨_, _, rfl⟩
  · subst ht hρ
    simp_all! [is_ratio_ev, show d_ratios_ZERO = rD 0 from rfl, hl b rb hb, hl e re he]
theorem score_init_ev {k : Nat} {p : Nat → Nat → Rat} {b e : Rat} (hk : k = 2 ∨ k = 3) (hb : b ≤ 0) (he : e ≤ 0) (rb : R0 b) (re : R0 e) (t : Tape) :
    F_align_Score_init [.str (wS (ltrs k)), tabD k k fun i j => some (p i j), rD b, rD e] t = some ((["letters", "values", "begin", "each"] : List Str), [.str (wS (ltrs k)), tabD k k fun i j => some (p i j), rD b, rD e], t) := by
  have h1 : mCall 4 0 F_align_check_score (mCons (mVar 1) (mCons (mVar 2) (mCons (mVar 3) (mCons (mVar 4) mNil)))) [none, some (.str (wS (ltrs k))), some (tabD k k fun i j => some (p i j)), some (rD b), some (rD e)] t = some (.non, t) := by
    refine wp_eq ?_
    simp_all! [check_score_ev hk hb he rb re]
  unfold F_align_Score_init initM
  show (runI _ [none, some (.str (wS (ltrs k))), some (tabD k k fun i j => some (p i j)), some (rD b), some (rD e)] t).bind _ = _
  simp only [runI, h1, Option.bind_some, List.getElem?_cons_succ, List.getElem?_cons_zero, Option.map_some]
  rw [if_pos]
  exact ⟨by decide +kernel, by decide⟩
theorem y_make {ρ : Env} {t : Tape} {ma : AM} {c : Str} {n : Nat} {f : FIM} {K : Kt (D × Tape)} : @wpx _ (mMake c n f ma ρ t) K = @wpx _ (ma ρ t) ⟨fun p => @gdX (p.1.length == n) ⟨@wpx _ (f p.1 p.2) ⟨fun r => @gdX (decide (r.1.length < 100) && r.2.1.all (pln 8)) ⟨K.k (.obj c r.1 r.2.1, r.2.2)⟩⟩⟩⟩ := by
  show wp _ _ = wp _ _
  unfold mMake
  rw [wp_bind]
  congr 1; funext p
  by_cases h : p.1.length = n
  · have : (p.1.length == n) = true := by simp [h]
    rw [if_pos h]
    show _ = gdK _ _
    rw [this, gdK_t, wp_bind]
    show _ = wp _ _
    congr 1; funext r
    show _ = gdK _ _
    by_cases h2 : r.1.length < 100 ∧ r.2.1.all (pln 8) = true
    · rw [if_pos h2, wp_some, decide_eq_true h2.1, h2.2]
      simp only [Bool.and_self, gdK_t]
    · rw [if_neg h2, wp_none]
      have : (decide (r.1.length < 100) && r.2.1.all (pln 8)) = false := by
        cases e : (decide (r.1.length < 100) && r.2.1.all (pln 8)) with
        | false => rfl
        | true =>
          rw [Bool.and_eq_true] at e
          exact absurd ⟨of_decide_eq_true e.1, e.2⟩ h2
      rw [this]
      simp only [gdK, Bool.false_eq_true, false_and]
  · have : (p.1.length == n) = false := by simp [h]
    rw [if_neg h, wp_none]
    show _ = gdK _ _
    rw [this]
    simp only [gdK, Bool.false_eq_true, false_and]
theorem pln_sc {k : Nat} {p : Nat → Nat → Rat} {b e : Rat} : ([.str (wS (ltrs k)), tabD k k fun i j => some (p i j), rD b, rD e] : List D).all (pln 8) = true := by
  simp only [List.all_cons, List.all_nil, Bool.and_true, Bool.and_eq_true]
  exact ⟨rfl, pln_tab 4 _ _ _, rfl, rfl⟩
end FL.L
set_option maxRecDepth 100000
set_option maxHeartbeats 800000
noncomputable section
namespace FL.L
open PySem PySem.Spec PyProof.Rows L2 FL
/-- from the left -/
def SubL (n : Nat) (f : Nat → Nat → Option Rat) (x : Nat → Option Rat) : Prop := ∀ i j, i < n → j < n → vle (vplus (x i) (f i j)) (x j)
theorem fwStep_subL {n m : Nat} {F : Nat → Nat → Option Rat} {x : Nat → Option Rat} (hm : m < n) (h : SubL n F x) : SubL n (fwStep m F) x := fun i j hi hj => by
  unfold fwStep
  rw [vplus_max2]
  refine vmax_le (h i j hi hj) ?_
  rw [← vplus_assoc]
  exact vle_trans (vplus_mono (h i m hi hm) (vle_refl _)) (h m j hm hj)
theorem fw_subL {n : Nat} {f : Nat → Nat → Option Rat} {x : Nat → Option Rat} (h : SubL n f x) : ∀ m, m ≤ n → SubL n (fw f m) x
  | 0, _ => h
  | m + 1, hm => fwStep_subL (by omega) (fw_subL h m (by omega))
theorem star_subL {n : Nat} {f : Nat → Nat → Option Rat} {x : Nat → Option Rat} (hx : SubL n f x) : SubL n (starF f n) x := fun i j hi hj => by
  show vle (vplus (x i) (vmax (unitF i j) (fw f n i j))) _
  rw [vplus_max2]
  refine vmax_le ?_ (fw_subL hx n (Nat.le_refl n) i j hi hj)
  unfold unitF
  by_cases e : i = j
  · subst e
    rw [if_pos rfl, vplus_zero]; exact vle_refl _
  · rw [if_neg e, vplus_none2]; trivial
section
variable {pr : Nat → Nat → Rat} {e : Rat}
theorem tp3_ge1 (i j : Nat) : vle (vplus (tp3 pr e i j) (some e)) (tp3 pr e (i + 1) j) := by
  cases j with
  | zero => rw [tp3_i0]; exact vle_refl _
  | succ j => rw [tp3_ij]; exact (vmaxL_none _).1 _ (by simp)
theorem tp3_ge2 (i j : Nat) : vle (vplus (tp3 pr e i j) (some e)) (tp3 pr e i (j + 1)) := by
  cases i with
  | zero => rw [tp3_0j]; exact vle_refl _
  | succ i => rw [tp3_ij]; exact (vmaxL_none _).1 _ (by simp)
theorem tp3_ge3 (i j : Nat) : vle (vplus (tp3 pr e i j) (some (pr i j))) (tp3 pr e (i + 1) (j + 1)) := by
  rw [tp3_ij]; exact (vmaxL_none _).1 _ (by simp)
end
/-- the table of steps of two words: L letters, w - 1 letters -/
def gr (pr : Nat → Nat → Rat) (e : Rat) (L w : Nat) : Nat → Nat → Option Rat := fun s c =>
  if s / w < L ∧ c = (s / w + 1) * w + s % w then some e
  else if s % w + 1 < w ∧ c = s / w * w + s % w + 1 then some e
  else if s / w < L ∧ s % w + 1 < w ∧ c = (s / w + 1) * w + s % w + 1 then some (pr (s / w) (s % w)) else none
theorem dq {i j w : Nat} (hj : j < w) : (i * w + j) / w = i := by
  rw [Nat.mul_comm, Nat.mul_add_div (by omega), Nat.div_eq_of_lt hj, Nat.add_zero]
theorem mq {i j w : Nat} (hj : j < w) : (i * w + j) % w = j := by
  rw [Nat.mul_comm, Nat.mul_add_mod, Nat.mod_eq_of_lt hj]
section
variable {pr : Nat → Nat → Rat} {e : Rat} {L w : Nat}
/-- a step of the table -/
theorem gr_step {s c : Nat} {q : Rat} (hw : 0 < w) (h : gr pr e L w s c = some q) : (c / w = s / w + 1 ∧ c % w = s % w ∧ q = e) ∨ (c / w = s / w ∧ c % w = s % w + 1 ∧ q = e) ∨ (c / w = s / w + 1 ∧ c % w = s % w + 1 ∧ q = pr (s / w) (s % w)) := by
  have hm : s % w < w := Nat.mod_lt _ hw
  unfold gr at h
  split at h
  · rename_i hc
    cases h
    exact .inl ⟨by rw [hc.2, dq hm], by rw [hc.2, mq hm], rfl⟩
  · split at h
    · rename_i hc
      cases h
      refine .inr (.inl ⟨?_, ?_, rfl⟩)
      · rw [hc.2, Nat.add_assoc, dq hc.1]
      · rw [hc.2, Nat.add_assoc, mq hc.1]
    · split at h
      · rename_i hc
        cases h
        refine .inr (.inr ⟨?_, ?_, rfl⟩)
        · rw [hc.2.2, Nat.add_assoc, dq hc.2.1]
        · rw [hc.2.2, Nat.add_assoc, mq hc.2.1]
      · cases h
theorem mul_lt_mul_self {a b w : Nat} (h : a < b) : a * w + w ≤ b * w := by
  have := Nat.mul_le_mul_right w (show a + 1 ≤ b from h)
  rwa [Nat.succ_mul] at this
theorem gr_1 {i j : Nat} (hi : i < L) (hj : j < w) : gr pr e L w (i * w + j) ((i + 1) * w + j) = some e := by
  unfold gr
  rw [dq hj, mq hj, if_pos ⟨hi, rfl⟩]
theorem gr_2 {i j : Nat} (hj : j + 1 < w) : gr pr e L w (i * w + j) (i * w + (j + 1)) = some e := by
  unfold gr
  rw [dq (show j < w by omega), mq (show j < w by omega)]
  split
  · rfl
  · rw [if_pos ⟨hj, by omega⟩]
theorem gr_3 {i j : Nat} (hi : i < L) (hj : j + 1 < w) : gr pr e L w (i * w + j) ((i + 1) * w + (j + 1)) = some (pr i j) := by
  unfold gr
  rw [dq (show j < w by omega), mq (show j < w by omega), if_neg (by omega), if_neg (by rw [Nat.succ_mul]; omega), if_pos ⟨hi, hj, by omega⟩]
theorem gr_vb {d N : Nat} (hp : ∀ i j, Bd d N (pr i j)) (he : Bd d N e) (s c : Nat) : VB d N (gr pr e L w s c) := by
  unfold gr
  split
  · exact VB.some he
  · split
    · exact VB.some he
    · split
      · exact VB.some (hp _ _)
      · exact VB.none
theorem gr_sub (hw : 0 < w) (hp : ∀ i j, pr i j ≤ 12) (he : e ≤ 6) : Sub ((L + 1) * w) (gr pr e L w) fun s => some (-6 * ((s / w + s % w : Nat) : Rat)) := fun s c hs hc => by
  cases h : gr pr e L w s c with
  | none => trivial
  | some q =>
    show q + -6 * ((c / w + c % w : Nat) : Rat) ≤ -6 * ((s / w + s % w : Nat) : Rat)
    rcases gr_step hw h with ⟨h1, h2, h3⟩ | ⟨h1, h2, h3⟩ | ⟨h1, h2, h3⟩
    · rw [h1, h2, h3, show s / w + 1 + s % w = (s / w + s % w) + 1 by omega, Rat.natCast_add, show ((1 : Nat) : Rat) = 1 from rfl]; grind
    · rw [h1, h2, h3, show s / w + (s % w + 1) = (s / w + s % w) + 1 by omega, Rat.natCast_add, show ((1 : Nat) : Rat) = 1 from rfl]; grind
    · have := hp (s / w) (s % w)
      rw [h1, h2, h3, show s / w + 1 + (s % w + 1) = (s / w + s % w) + 2 by omega, Rat.natCast_add, show ((2 : Nat) : Rat) = 2 from rfl]; grind
theorem at_lt {i j : Nat} (hi : i ≤ L) (hj : j < w) : i * w + j < (L + 1) * w := by
  have := mul_lt_mul_self (a := i) (b := L + 1) (w := w) (by omega)
  omega
/-- the star has the greatest sums of parts of both words -/
theorem gr_star (hw : 0 < w) (hp : ∀ i j, pr i j ≤ 12) (he : e ≤ 6) {i j a b : Nat} (h1 : i ≤ a) (h2 : a ≤ L) (h3 : j ≤ b) (h4 : b < w) : starF (gr pr e L w) ((L + 1) * w) (i * w + j) (a * w + b) = tp3 (fun r c => pr (i + r) (j + c)) e (a - i) (b - j) := by
  have hs := gr_sub (L := L) hw hp he
  have src : i * w + j < (L + 1) * w := at_lt (by omega) (by omega)
  refine vle_antisymm ?_ ?_
  · -- at most
    have hx : SubL ((L + 1) * w) (gr pr e L w) fun s => if i ≤ s / w ∧ j ≤ s % w then tp3 (fun r c => pr (i + r) (j + c)) e (s / w - i) (s % w - j) else none := fun s c hs hc => by
      show vle (vplus (if _ then _ else _) _) (if _ then _ else _)
      by_cases hin : i ≤ s / w ∧ j ≤ s % w
      · rw [if_pos hin]
        cases h : gr pr e L w s c with
        | none => rw [vplus_none2]; trivial
        | some q =>
          rcases gr_step hw h with ⟨e1, e2, e3⟩ | ⟨e1, e2, e3⟩ | ⟨e1, e2, e3⟩
          · rw [e1, e2, e3, if_pos (by omega), show s / w + 1 - i = (s / w - i) + 1 by omega]
            exact tp3_ge1 _ _
          · rw [e1, e2, e3, if_pos (by omega), show s % w + 1 - j = (s % w - j) + 1 by omega]
            exact tp3_ge2 _ _
          · rw [e1, e2, e3, if_pos (by omega), show s / w + 1 - i = (s / w - i) + 1 by omega, show s % w + 1 - j = (s % w - j) + 1 by omega]
            have := tp3_ge3 (pr := fun r c => pr (i + r) (j + c)) (e := e) (s / w - i) (s % w - j)
            rwa [show i + (s / w - i) = s / w by omega, show j + (s % w - j) = s % w by omega] at this
      · rw [if_neg hin, vplus_none1]; trivial
    have := star_subL hx (i * w + j) (a * w + b) src (at_lt h2 h4)
    rw [dq (show j < w by omega), mq (show j < w by omega), dq h4, mq h4, if_pos ⟨Nat.le_refl i, Nat.le_refl j⟩, if_pos ⟨h1, h3⟩, Nat.sub_self, Nat.sub_self, tp3_00, vplus_zero1] at this
    exact this
  · -- at least
    have go : ∀ n m, i + n ≤ L → j + m < w → vle (tp3 (fun r c => pr (i + r) (j + c)) e n m) (starF (gr pr e L w) ((L + 1) * w) (i * w + j) ((i + n) * w + (j + m))) := by
      have on : ∀ {x : Option Rat} {h g : Nat} {q : Rat}, h < (L + 1) * w → g < (L + 1) * w → vle x (starF (gr pr e L w) ((L + 1) * w) (i * w + j) h) → gr pr e L w h g = some q → vle (vplus x (some q)) (starF (gr pr e L w) ((L + 1) * w) (i * w + j) g) := fun {x h g q} hh hg hx hq => by
        refine vle_trans (vplus_mono hx (vle_refl _)) ?_
        refine vle_trans (vplus_mono (vle_refl _) ?_) (star_trans hs src hh hg)
        rw [← hq]; exact star_ge _ _ _ _
      intro n
      induction n with
      | zero =>
        intro m
        induction m with
        | zero =>
          intro _ _
          rw [tp3_00]
          show vle _ (starF (gr pr e L w) ((L + 1) * w) (i * w + j) (i * w + j))
          rw [star_diag hs src]; exact vle_refl _
        | succ m ih =>
          intro hn hm
          rw [tp3_0j]
          exact on (at_lt hn (by omega)) (at_lt hn hm) (ih hn (by omega)) (gr_2 (by omega))
      | succ n ihn =>
        intro m
        induction m with
        | zero =>
          intro hn hm
          rw [tp3_i0]
          exact on (at_lt (by omega) hm) (at_lt hn hm) (ihn 0 (by omega) hm) (gr_1 (by omega) hm)
        | succ m ihm =>
          intro hn hm
          rw [tp3_ij]
          rcases (vmaxL_none [vplus (tp3 (fun r c => pr (i + r) (j + c)) e n m) (some (pr (i + n) (j + m))), vplus (tp3 (fun r c => pr (i + r) (j + c)) e n (m + 1)) (some e), vplus (tp3 (fun r c => pr (i + r) (j + c)) e (n + 1) m) (some e)]).2 with z | z
          · rw [z]; trivial
          · simp only [List.mem_cons, List.mem_nil_iff, or_false] at z
            rcases z with z | z | z <;> rw [z]
            · exact on (at_lt (by omega) (by omega)) (at_lt hn hm) (ihn m (by omega) (by omega)) (gr_3 (by omega) (by omega))
            · exact on (at_lt (by omega) hm) (at_lt hn hm) (ihn (m + 1) (by omega) hm) (gr_1 (by omega) hm)
            · exact on (at_lt hn (by omega)) (at_lt hn hm) (ihm hn (by omega)) (gr_2 (by omega))
    have := go (a - i) (b - j) (by omega) (by omega)
    rwa [show i + (a - i) = a by omega, show j + (b - j) = b by omega] at this
end
end FL.L
set_option maxRecDepth 100000
set_option maxHeartbeats 200000
noncomputable section
namespace FL.L
open PySem PySem.Spec PyProof.Rows L2 FL
/-! lots in a room: things are weights and worths -/
def iD (n : Nat) : D := .int n
/-- the greatest worth for each room, a thing more -/
def kstep (w : Nat) (v : Rat) (f : Nat → Rat) (p : Nat) : Rat := if w ≤ p ∧ f p < f (p - w) + v then f (p - w) + v else f p
def lots : List (Nat × Rat) → Nat → Rat
  | ths => ths.foldl (fun f th => kstep th.1 th.2 f) (fun _ => 0)
theorem check_things_ev (ths : List (Nat × Rat)) (room : Nat) (t : Tape) (hr : room ≤ 200) (hn : ths.length ≤ 24) (hw : ∀ th ∈ ths, 0 < th.1) :
    F_rules_check_things [.tup (ths.map fun th => iD th.1), .tup (ths.map fun th => rD th.2), .int room] t = some (.non, t) := by
  have k1 : ∀ x, lcL (gmName 3) mYes (mCall 1 0 F_ratios_is_ratio (mCons (mVar 3) mNil)) [some (.tup (ths.map fun th => iD th.1)), some (.tup (ths.map fun th => rD th.2)), some (.int room), x] (ths.map fun th => rD th.2) t = some (ths.map fun _ => D.bl true, t) := fun x =>
    lcL_map _ _ _ fun th hth => ⟨_, rfl, rfl, by simp! [is_ratio_ev]⟩
  have k2 : ∀ x, lcL (gmName 3) mYes (mAndV (mCall 1 0 F_ratios_is_integer (mCons (mVar 3) mNil)) (mOp oGt (mVar 3) (mC (.int 0)))) [some (.tup (ths.map fun th => iD th.1)), some (.tup (ths.map fun th => rD th.2)), some (.int room), x] (ths.map fun th => iD th.1) t = some (ths.map fun _ => D.bl true, t) := fun x =>
    lcL_map _ _ _ fun th hth => ⟨_, rfl, rfl, by
      have := hw th hth
      have h2 : decide ((0 : Int) < (th.1 : Int)) = true := decide_eq_true (by omega)
      simp! [iD, is_integer_ev, h2]⟩
  have h1 : decide ((room : Int) < 0) = false := decide_eq_false (by omega)
  have h2 : decide ((200 : Int) < room) = false := decide_eq_false (by omega)
  have h3 : decide ((24 : Int) < (ths.length : Int)) = false := decide_eq_false (by omega)
  have h4 : ths.length ≤ 100000 := by omega
  have h5 : oNe (.int (ths.length : Int)) (.int (ths.length : Int)) = some (.bl false) := by rw [oNe_int, decide_eq_true rfl]; rfl
  refine fnM_nx (ρ := [some (.tup (ths.map fun th => iD th.1)), some (.tup (ths.map fun th => rD th.2)), some (.int room), none]) ?_
  unfold m_rules_check_things
  refine (mSeqIf_f (t' := t) ?_).trans ((mSeqIf_f (t' := t) ?_).trans ((mSeqIf_f (t' := t) ?_).trans ((mIf_f (t' := t) ?_).trans rfl)))
  · simp! [is_integer_ev, h1, h2]
  · simp! []
  · simp! [d_rules_MOST_RULES, h3, mLc, k1, h4, gAll, bls_map_true, all_const_true]
  · simp! [mLc, k2, h4, gAll, bls_map_true, all_const_true]

theorem kstep_bd {d N M : Nat} (hd : d ≠ 0) {w : Nat} {v : Rat} {f : Nat → Rat} (hf : ∀ p, Bd d N (f p)) (hv : Bd d M v) (p : Nat) : Bd d (N + M) (kstep w v f p) := by
  unfold kstep
  split
  · exact Bd.add hd (hf _) hv
  · exact (hf _).mono (by omega)
abbrev lotsIn : SM := mSeq (mSet 7 (mCall 2 0 F_values_plus (mCons (mOp oIx (mVar 3) (mOp oSub (mVar 6) (mVar 4))) (mCons (mVar 5) mNil)))) (mSetI 3 (mVar 6) (mIfE (mTst (mCall 2 0 F_values_is_less (mCons (mOp oIx (mVar 3) (mVar 6)) (mCons (mVar 7) mNil)))) (mVar 7) (mOp oIx (mVar 3) (mVar 6))))
theorem dRangeD_ev {i j : Nat} (h1 : i ≤ 1000) (h2 : j ≤ 1000) : dRangeD [.int (i : Int), .int ((j : Int) - 1), .int (-1)] = some ((List.range (i + 1 - j)).map fun (k : Nat) => D.int ((i : Int) - (k : Int))) := by
  have b1 := big_of (i := (i : Int)) (by omega) (by omega)
  have b2 := big_of (i := (j : Int) - 1) (by omega) (by omega)
  unfold dRangeD
  simp only [b1, b2]
  show (if (true && true && ((-1 : Int) == -1)) = true then _ else _) = _
  rw [if_pos (by decide), show ((i : Int) - ((j : Int) - 1)).toNat = i + 1 - j by omega]
  congr 2
  funext k
  congr 1
  omega
theorem lots_in {d N M : Nat} (hd : 0 < d) (h2 : d < 2 ^ 200) (h3 : N + M < 2 ^ 200) (W V : Option D) (room w : Nat) (v : Rat) (f : Nat → Rat) (hf : ∀ p, Bd d N (f p)) (hv : Bd d M v) (hw : 0 < w) (t : Tape) (x6 x7 : Option D) :
    ∃ y6 y7, forL (gmName 6) lotsIn ((List.range (room + 1 - w)).map fun (k : Nat) => D.int ((room : Int) - (k : Int))) [W, V, some (.int room), some (.lst ((List.range (room + 1)).map fun p => rD (f p))), some (iD w), some (rD v), x6, x7] t
      = some (.nx [W, V, some (.int room), some (.lst ((List.range (room + 1)).map fun p => rD (kstep w v f p))), some (iD w), some (rD v), y6, y7] t) := by
  have hd0 : d ≠ 0 := by omega
  obtain ⟨ρ', t', h1, ht, y6, y7, hρ⟩ := forL_at (g := gmName 6) (sm := lotsIn) ((List.range (room + 1 - w)).map fun (k : Nat) => D.int ((room : Int) - (k : Int)))
    (fun i ρ t' => t' = t ∧ ∃ y6 y7, ρ = [W, V, some (.int room), some (.lst ((List.range (room + 1)).map fun p => rD (if room < p + i then kstep w v f p else f p))), some (iD w), some (rD v), y6, y7])
    (fun i e ρ t' he ⟨ht, y6, y7, hρ⟩ => by
      subst ht hρ
      have hi : i < room + 1 - w := by
        have := (List.getElem?_eq_some_iff.mp he).1
        simpa using this
      rw [range_at _ hi] at he
      cases he
      have e1 : oIx (.lst ((List.range (room + 1)).map fun p => rD (if room < p + i then kstep w v f p else f p))) (.int ((room : Int) - i - w)) = some (rD (f (room - i - w))) := oIx_lst (by omega) (by
        rw [show ((room : Int) - i - w).toNat = room - i - w by omega, range_at _ (by omega), if_neg (by omega)])
      have e2 : oIx (.lst ((List.range (room + 1)).map fun p => rD (if room < p + i then kstep w v f p else f p))) (.int ((room : Int) - i)) = some (rD (f (room - i))) := oIx_lst (by omega) (by
        rw [show ((room : Int) - i).toNat = room - i by omega, range_at _ (by omega), if_neg (by omega)])
      have e3 : ixN (room + 1) ((room : Int) - i) = some (room - i) := by
        rw [ixN_of (by omega) (by omega)]; congr 1; omega
      have p1 := plus_ev (a := some (f (room - i - w))) (b := some v) (V0.some ((hf _).r0 hd h2 (by omega))) (V0.some (hv.r0 hd h2 (by omega))) t'
      have p2 := is_less_ev (a := some (f (room - i))) (b := some (f (room - i - w) + v)) (V0.some ((hf _).r0 hd h2 (by omega))) (V0.some ((Bd.add hd0 (hf _) hv).r0 hd h2 h3)) t'
      simp only [vD, vplus, vless] at p1 p2
      refine ⟨_, _, rfl, ?_, [W, V, some (.int room), some (.lst ((List.range (room + 1)).map fun p => rD (if room < p + (i + 1) then kstep w v f p else f p))), some (iD w), some (rD v), some (.int ((room : Int) - i)), some (rD (f (room - i - w) + v))], t', .inl rfl, rfl, _, _, rfl⟩
      have fin : ((List.range (room + 1)).map fun p => rD (if room < p + i then kstep w v f p else f p)).set (room - i) (rD (kstep w v f (room - i))) = (List.range (room + 1)).map fun p => rD (if room < p + (i + 1) then kstep w v f p else f p) := by
        rw [map_range_set]
        refine List.map_congr_left fun p hp => ?_
        by_cases e : p = room - i
        · subst e
          rw [if_pos rfl, if_pos (by omega)]
        · rw [if_neg e]
          by_cases e2 : room < p + i
          · rw [if_pos e2, if_pos (by omega)]
          · rw [if_neg e2, if_neg (by omega)]
      have fin2 : kstep w v f (room - i) = if f (room - i) < f (room - i - w) + v then f (room - i - w) + v else f (room - i) := by
        unfold kstep
        by_cases c : f (room - i) < f (room - i - w) + v
        · rw [if_pos ⟨by omega, c⟩, if_pos c]
        · rw [if_neg fun z => c z.2, if_neg c]
      rw [fin2] at fin
      by_cases c : f (room - i) < f (room - i - w) + v
      · rw [if_pos c] at fin
        rw [decide_eq_true c] at p2
        simp! [lotsIn, iD, mSetI, e1, e2, e3, p1, p2, pln_rD, fin]
      · rw [if_neg c] at fin
        rw [decide_eq_false c] at p2
        simp! [lotsIn, iD, mSetI, e1, e2, e3, p1, p2, pln_rD, fin])
    (ρ := [W, V, some (.int room), some (.lst ((List.range (room + 1)).map fun p => rD (f p))), some (iD w), some (rD v), x6, x7]) (t := t) ⟨rfl, x6, x7, by
      congr 5
      congr 1
      refine List.map_congr_left fun p hp => ?_
      rw [if_neg (by have := List.mem_range.mp hp; omega)]⟩
  subst ht hρ
  refine ⟨y6, y7, h1.trans ?_⟩
  congr 6
  congr 2
  refine List.map_congr_left fun p hp => ?_
  have hp := List.mem_range.mp hp
  rw [List.length_map, List.length_range]
  by_cases e : room < p + (room + 1 - w)
  · rw [if_pos e]
  · rw [if_neg e]
    unfold kstep
    rw [if_neg fun z => by omega]

theorem lots_snoc (l : List (Nat × Rat)) (th : Nat × Rat) : lots (l ++ [th]) = kstep th.1 th.2 (lots l) := by
  unfold lots; rw [List.foldl_append]; rfl
theorem lots_bd {d N : Nat} (hd : d ≠ 0) : ∀ (l : List (Nat × Rat)) (M : Nat) (f : Nat → Rat), (∀ p, Bd d M (f p)) → (∀ th ∈ l, Bd d N th.2) → ∀ p, Bd d (M + l.length * N) (l.foldl (fun f th => kstep th.1 th.2 f) f p)
  | [], M, f, hf, _, p => (hf p).mono (by omega)
  | th :: l, M, f, hf, hl, p => by
    have := lots_bd hd l (M + N) (kstep th.1 th.2 f) (kstep_bd hd hf (hl th List.mem_cons_self)) (fun u hu => hl u (List.mem_cons_of_mem _ hu)) p
    refine this.mono ?_
    rw [List.length_cons, Nat.succ_mul]; omega
theorem lots_Bd {d N : Nat} (hd : d ≠ 0) (l : List (Nat × Rat)) (hl : ∀ th ∈ l, Bd d N th.2) (p : Nat) : Bd d (l.length * N) (lots l p) := (lots_bd hd l 0 (fun _ => 0) (fun _ => Bd.zero) hl p).mono (by omega)
theorem lots_of_ev {d N : Nat} (hd : 0 < d) (h2 : d < 2 ^ 200) (h3 : N < 2 ^ 100) (ths : List (Nat × Rat)) (room : Nat) (t : Tape) (hr : room ≤ 200) (hn : ths.length ≤ 24) (hw : ∀ th ∈ ths, 0 < th.1) (hw2 : ∀ th ∈ ths, th.1 ≤ 1000) (hv : ∀ th ∈ ths, Bd d N th.2) :
    F_rules_lots_of [.tup (ths.map fun th => iD th.1), .tup (ths.map fun th => rD th.2), .int room] t = some (.tup ((List.range (room + 1)).map fun p => rD (lots ths p)), t) := by
  have hd0 : d ≠ 0 := by omega
  have hmul : ∀ i : Nat, i ≤ 24 → i * N + N < 2 ^ 200 := fun i hi => by
    have : i * N ≤ 24 * N := Nat.mul_le_mul_right _ hi
    omega
  have hc := check_things_ev ths room t hr hn hw
  let W := some (D.tup (ths.map fun th => iD th.1)); let V := some (D.tup (ths.map fun th => rD th.2))
  have hrep : repL ((room : Int) + 1) [d_ratios_ZERO] = (List.range (room + 1)).map fun p => rD ((fun _ => 0 : Nat → Rat) p) := by
    unfold repL
    rw [show ((room : Int) + 1).toNat = room + 1 by omega]
    generalize room + 1 = n
    induction n with
    | zero => rfl
    | succ n ih => rw [List.replicate_succ', List.flatten_append, ih, List.range_succ, List.map_append]; rfl
  have hr1 : rep1 ((room : Int) + 1) [d_ratios_ZERO] = true := rep1_of (by omega) (by omega) (by show 1 ≤ 1000; decide)
  obtain ⟨ρ', t', h1, ht, y4, y5, y6, y7, hρ⟩ := forL_at (g := gmTup 2 (gmCons (gmName 4) (gmCons (gmName 5) gmNil))) (sm := mFor (mIter dRangeD (mCons (mVar 2) (mCons (mOp oSub (mVar 4) (mC (.int 1))) (mCons (mUn oNeg (mC (.int 1))) mNil)))) (gmName 6) lotsIn) (ths.map fun th => D.tup [iD th.1, rD th.2])
    (fun i ρ t' => t' = t ∧ ∃ y4 y5 y6 y7, ρ = [W, V, some (.int room), some (.lst ((List.range (room + 1)).map fun p => rD (lots (ths.take i) p))), y4, y5, y6, y7])
    (fun i e ρ t' he ⟨ht, y4, y5, y6, y7, hρ⟩ => by
      subst ht hρ
      rw [List.getElem?_map] at he
      cases hth : ths[i]? with
      | none => rw [hth] at he; cases he
      | some th =>
        rw [hth] at he
        cases he
        have hm := List.mem_of_getElem? hth
        have hi : i < ths.length := (List.getElem?_eq_some_iff.mp hth).1
        have hb : ∀ p, Bd d (i * N) (lots (ths.take i) p) := fun p => (lots_Bd hd0 (ths.take i) (fun u hu => hv u (List.mem_of_mem_take hu)) p).mono (by
          rw [List.length_take]; exact Nat.mul_le_mul_right _ (Nat.min_le_left _ _))
        obtain ⟨z6, z7, k⟩ := lots_in hd h2 (hmul i (by omega)) W V room th.1 th.2 (lots (ths.take i)) hb (hv th hm) (hw th hm) t' y6 y7
        have hR := dRangeD_ev (i := room) (j := th.1) (by omega) (hw2 th hm)
        refine ⟨_, _, rfl, (mFor_of (ds := (List.range (room + 1 - th.1)).map fun (k : Nat) => D.int ((room : Int) - (k : Int))) (t' := t') ?_).trans k, _, _, .inl rfl, rfl, some (iD th.1), some (rD th.2), z6, z7, ?_⟩
        · simp! [iD, hR]
        · rw [take_succ hth, lots_snoc])
    (ρ := [W, V, some (.int room), some (.lst ((List.range (room + 1)).map fun p => rD ((fun _ => 0 : Nat → Rat) p))), none, none, none, none]) (t := t) ⟨rfl, _, _, _, _, rfl⟩
  subst ht hρ
  refine fnM_rt ?_
  unfold m_rules_lots_of
  refine (mSeq_nx (mDrop_of (d := .non) (t' := t') ?_)).trans ((mSeq_nx (mSet_of (t' := t') (d := .lst ((List.range (room + 1)).map fun p => rD ((fun _ => 0 : Nat → Rat) p))) ?_)).trans ((mSeq_nx ((mFor_of (t' := t') (ds := ths.map fun th => D.tup [iD th.1, rD th.2]) ?_).trans h1)).trans (mRet_of ?_)))
  · simp! [hc]
  · simp! [oRep, hr1, hrep]
  · simp! [dZipA, dZip_map]
  · rw [List.length_map, List.take_length]
    simp! []

/-- what chosen takes, from the last on -/
def chs (ths : List (Nat × Rat)) : Nat → Nat → List Nat
  | 0, _ => []
  | i + 1, left => if lots (ths.take (i + 1)) left ≠ lots (ths.take i) left then i :: chs ths i (left - ((ths[i]?).map (·.1)).getD 0) else chs ths i left
theorem kstep_ne {w : Nat} {v : Rat} {f : Nat → Rat} {p : Nat} (h : kstep w v f p ≠ f p) : w ≤ p ∧ kstep w v f p = f (p - w) + v := by
  unfold kstep at h ⊢
  split
  · rename_i c; exact ⟨c.1, rfl⟩
  · rename_i c; rw [if_neg c] at h; exact absurd rfl h
abbrev chsIn : SM := mSeq (mSet 6 (mCall 3 0 F_rules_lots_of (mCons (mSl oSlT (mVar 0) mNoO (mO (mVar 5))) (mCons (mSl oSlT (mVar 1) mNoO (mO (mVar 5))) (mCons (mVar 4) mNil))))) (mSeq (mSet 7 (mCall 3 0 F_rules_lots_of (mCons (mSl oSlT (mVar 0) mNoO (mO (mOp oAdd (mVar 5) (mC (.int 1))))) (mCons (mSl oSlT (mVar 1) mNoO (mO (mOp oAdd (mVar 5) (mC (.int 1))))) (mCons (mVar 4) mNil))))) (mIf (mTst (mOp oNe (mOp oIx (mVar 7) (mVar 4)) (mOp oIx (mVar 6) (mVar 4)))) (mSeq (mApp 3 (mVar 5)) (mAug 4 (fun i j => i - j) (mOp oIx (mVar 0) (mVar 5)))) mSkip))
theorem dRangeD_all {n : Nat} (h1 : n ≤ 1000) : dRangeD [.int ((n : Int) - 1), .int (-1), .int (-1)] = some ((List.range n).map fun (k : Nat) => D.int ((n : Int) - 1 - (k : Int))) := by
  have b1 := big_of (i := (n : Int) - 1) (by omega) (by omega)
  have b2 := big_of (i := -1) (by omega) (by omega)
  unfold dRangeD
  simp only [b1, b2]
  show (if (true && true && ((-1 : Int) == -1)) = true then _ else _) = _
  rw [if_pos (by decide), show ((n : Int) - 1 - (-1)).toNat = n by omega]
  congr 2
  funext k
  congr 1
  omega
theorem chosen_ev {d N : Nat} (hd : 0 < d) (h2 : d < 2 ^ 200) (h3 : N < 2 ^ 100) (ths : List (Nat × Rat)) (room : Nat) (t : Tape) (hr : room ≤ 200) (hn : ths.length ≤ 24) (hw : ∀ th ∈ ths, 0 < th.1) (hw2 : ∀ th ∈ ths, th.1 ≤ 1000) (hv : ∀ th ∈ ths, Bd d N th.2) :
    F_rules_chosen [.tup (ths.map fun th => iD th.1), .tup (ths.map fun th => rD th.2), .int room] t = some (.tup ((chs ths ths.length room).reverse.map iD), t) := by
  have hc := check_things_ev ths room t hr hn hw
  let W := some (D.tup (ths.map fun th => iD th.1)); let V := some (D.tup (ths.map fun th => rD th.2))
  have hlots : ∀ (i left : Nat), left ≤ 200 → F_rules_lots_of [.tup ((ths.take i).map fun th => iD th.1), .tup ((ths.take i).map fun th => rD th.2), .int left] t = some (.tup ((List.range (left + 1)).map fun p => rD (lots (ths.take i) p)), t) := fun i left hl =>
    lots_of_ev hd h2 h3 (ths.take i) left t hl (by rw [List.length_take]; omega) (fun th h => hw th (List.mem_of_mem_take h)) (fun th h => hw2 th (List.mem_of_mem_take h)) (fun th h => hv th (List.mem_of_mem_take h))
  have hpl : ∀ i left : Nat, plnL 0 (.tup ((List.range (left + 1)).map fun p => rD (lots (ths.take i) p))) = true := fun i left => pln_tup (n := 8) fun p _ => rfl
  obtain ⟨ρ', t', h1, ht, acc, left, y5, y6, y7, hρ, hl, hacc, hal⟩ := forL_at (g := gmName 5) (sm := chsIn) ((List.range ths.length).map fun (k : Nat) => D.int ((ths.length : Int) - 1 - (k : Int)))
    (fun k ρ t' => t' = t ∧ ∃ (acc : List Nat) (left : Nat) (y5 y6 y7 : Option D), ρ = [W, V, some (.int room), some (.lst (acc.map iD)), some (.int left), y5, y6, y7] ∧ left ≤ room ∧ acc ++ chs ths (ths.length - k) left = chs ths ths.length room ∧ acc.length ≤ k)
    (fun k e ρ t' he ⟨ht, acc, left, y5, y6, y7, hρ, hl, hacc, hal⟩ => by
      subst ht hρ
      have hk : k < ths.length := by
        have := (List.getElem?_eq_some_iff.mp he).1
        simpa using this
      rw [range_at _ hk] at he
      cases he
      generalize hi : ths.length - 1 - k = i
      have hi2 : i < ths.length := by omega
      have ei : (ths.length : Int) - 1 - (k : Int) = (i : Int) := by omega
      rw [ei]
      have ek : ths.length - k = i + 1 := by omega
      rw [ek] at hacc
      have ek2 : ths.length - (k + 1) = i := by omega
      have hth : ths[i]? = some ths[i] := List.getElem?_eq_getElem hi2
      have l1 := hlots i left (by omega)
      have l2 := hlots (i + 1) left (by omega)
      have s1 : cutL (ths.map fun th => iD th.1) none (some ((i : Nat) : Int)) = (ths.take i).map fun th => iD th.1 := by rw [cut_take, List.map_take]
      have s2 : cutL (ths.map fun th => rD th.2) none (some ((i : Nat) : Int)) = (ths.take i).map fun th => rD th.2 := by rw [cut_take, List.map_take]
      have s3 : cutL (ths.map fun th => iD th.1) none (some ((i : Int) + 1)) = (ths.take (i + 1)).map fun th => iD th.1 := by
        have := cut_take (ths.map fun th => iD th.1) (i + 1)
        rw [Int.natCast_add] at this
        rw [List.map_take]; exact this
      have s4 : cutL (ths.map fun th => rD th.2) none (some ((i : Int) + 1)) = (ths.take (i + 1)).map fun th => rD th.2 := by
        have := cut_take (ths.map fun th => rD th.2) (i + 1)
        rw [Int.natCast_add] at this
        rw [List.map_take]; exact this
      have x1 : oIx (.tup ((List.range (left + 1)).map fun p => rD (lots (ths.take i) p))) (.int left) = some (rD (lots (ths.take i) left)) := oIx_tup (by omega) (by rw [Int.toNat_natCast, range_at _ (by omega)])
      have x2 : oIx (.tup ((List.range (left + 1)).map fun p => rD (lots (ths.take (i + 1)) p))) (.int left) = some (rD (lots (ths.take (i + 1)) left)) := oIx_tup (by omega) (by rw [Int.toNat_natCast, range_at _ (by omega)])
      have x3 : oIx (.tup (ths.map fun th => iD th.1)) (.int i) = some (iD ths[i].1) := oIx_tup (by omega) (by rw [Int.toNat_natCast, List.getElem?_map, hth]; rfl)
      have c6 : (mCall 3 0 F_rules_lots_of (mCons (mSl oSlT (mVar 0) mNoO (mO (mVar 5))) (mCons (mSl oSlT (mVar 1) mNoO (mO (mVar 5))) (mCons (mVar 4) mNil)))) [W, V, some (.int room), some (.lst (acc.map iD)), some (.int left), some (.int i), y6, y7] t' = some (.tup ((List.range (left + 1)).map fun p => rD (lots (ths.take (i)) p)), t') := by
        refine mCall_of (ds := [.tup ((ths.take (i)).map fun th => iD th.1), .tup ((ths.take (i)).map fun th => rD th.2), .int left]) (t1 := t') ?_ ?_ ?_ ?_
        rotate_left
        · simp only [List.length_cons, List.length_nil]
        · exact l1
        · exact hpl i left
        simp! [W, V, oSlT, s1, s2]
      have h6 : mSet 6 (mCall 3 0 F_rules_lots_of (mCons (mSl oSlT (mVar 0) mNoO (mO (mVar 5))) (mCons (mSl oSlT (mVar 1) mNoO (mO (mVar 5))) (mCons (mVar 4) mNil)))) [W, V, some (.int room), some (.lst (acc.map iD)), some (.int left), some (.int i), y6, y7] t' = some (.nx [W, V, some (.int room), some (.lst (acc.map iD)), some (.int left), some (.int i), some (.tup ((List.range (left + 1)).map fun p => rD (lots (ths.take i) p))), y7] t') := by
        rw [mSet_of c6]; rfl
      have c7 : (mCall 3 0 F_rules_lots_of (mCons (mSl oSlT (mVar 0) mNoO (mO (mOp oAdd (mVar 5) (mC (.int 1))))) (mCons (mSl oSlT (mVar 1) mNoO (mO (mOp oAdd (mVar 5) (mC (.int 1))))) (mCons (mVar 4) mNil)))) [W, V, some (.int room), some (.lst (acc.map iD)), some (.int left), some (.int i), some (.tup ((List.range (left + 1)).map fun p => rD (lots (ths.take i) p))), y7] t' = some (.tup ((List.range (left + 1)).map fun p => rD (lots (ths.take (i + 1)) p)), t') := by
        refine mCall_of (ds := [.tup ((ths.take (i + 1)).map fun th => iD th.1), .tup ((ths.take (i + 1)).map fun th => rD th.2), .int left]) (t1 := t') ?_ ?_ ?_ ?_
        rotate_left
        · simp only [List.length_cons, List.length_nil]
        · exact l2
        · exact hpl (i + 1) left
        simp! [W, V, oSlT, s3, s4]
      have h7 : mSet 7 (mCall 3 0 F_rules_lots_of (mCons (mSl oSlT (mVar 0) mNoO (mO (mOp oAdd (mVar 5) (mC (.int 1))))) (mCons (mSl oSlT (mVar 1) mNoO (mO (mOp oAdd (mVar 5) (mC (.int 1))))) (mCons (mVar 4) mNil)))) [W, V, some (.int room), some (.lst (acc.map iD)), some (.int left), some (.int i), some (.tup ((List.range (left + 1)).map fun p => rD (lots (ths.take i) p))), y7] t' = some (.nx [W, V, some (.int room), some (.lst (acc.map iD)), some (.int left), some (.int i), some (.tup ((List.range (left + 1)).map fun p => rD (lots (ths.take i) p))), some (.tup ((List.range (left + 1)).map fun p => rD (lots (ths.take (i + 1)) p)))] t') := by
        rw [mSet_of c7]; rfl
      have hex : chs ths (i + 1) left = if lots (ths.take (i + 1)) left ≠ lots (ths.take i) left then i :: chs ths i (left - ths[i].1) else chs ths i left := by
        show (if _ then _ else _) = _
        rw [hth]; rfl
      rw [hex] at hacc
      by_cases c : lots (ths.take (i + 1)) left = lots (ths.take i) left
      · rw [if_neg (fun z => z c)] at hacc
        refine ⟨_, _, rfl, (mSeq_nx h6).trans ((mSeq_nx h7).trans ((mIf_f (t' := t') ?_).trans rfl)), _, _, .inl rfl, rfl, acc, left, some (.int i), some (.tup ((List.range (left + 1)).map fun p => rD (lots (ths.take i) p))), some (.tup ((List.range (left + 1)).map fun p => rD (lots (ths.take (i + 1)) p))), rfl, hl, by rw [ek2]; exact hacc, by omega⟩
        simp! [x1, x2, oNe_rD, c]
      · rw [if_pos c] at hacc
        have hwl : ths[i].1 ≤ left := by
          have e : lots (ths.take (i + 1)) = kstep ths[i].1 ths[i].2 (lots (ths.take i)) := by rw [take_succ hth, lots_snoc]
          rw [e] at c
          exact (kstep_ne c).1
        refine ⟨_, _, rfl, (mSeq_nx h6).trans ((mSeq_nx h7).trans ((mIf_t (t' := t') ?_).trans ?_)), [W, V, some (.int room), some (.lst ((acc ++ [i]).map iD)), some (.int ((left - ths[i].1 : Nat) : Int)), some (.int i), some (.tup ((List.range (left + 1)).map fun p => rD (lots (ths.take i) p))), some (.tup ((List.range (left + 1)).map fun p => rD (lots (ths.take (i + 1)) p)))], t', .inl rfl, rfl, acc ++ [i], left - ths[i].1, some (.int i), some (.tup ((List.range (left + 1)).map fun p => rD (lots (ths.take i) p))), some (.tup ((List.range (left + 1)).map fun p => rD (lots (ths.take (i + 1)) p))), rfl, by omega, by rw [ek2, List.append_assoc]; exact hacc, by rw [List.length_append]; exact Nat.succ_le_succ hal⟩
        · simp! [x1, x2, oNe_rD, c]
        · have hal2 : acc.length ≤ 100000 := by omega
          have e4 : ((left - ths[i].1 : Nat) : Int) = (left : Int) - (ths[i].1 : Int) := by omega
          simp only [iD] at x3
          simp! [mApp, W, x3, hal2, iD, List.map_append, e4])
    (ρ := [W, V, some (.int room), some (.lst (([] : List Nat).map iD)), some (.int room), none, none, none]) (t := t) ⟨rfl, [], room, _, _, _, rfl, Nat.le_refl _, rfl, Nat.le_refl _⟩
  subst ht hρ
  rw [List.length_map, List.length_range, Nat.sub_self] at hacc
  have hacc' : acc = chs ths ths.length room := by
    rw [← hacc]; exact (List.append_nil acc).symm
  refine fnM_rt ?_
  unfold m_rules_chosen
  refine (mSeq_nx (mDrop_of (d := .non) (t' := t') ?_)).trans ((mSeq_nx (?_ : _ = some (Out.nx [W, V, some (.int room), some (.lst (([] : List Nat).map iD)), some (.int room), none, none, none] t'))).trans ((mSeq_nx ((mFor_of (t' := t') (ds := (List.range ths.length).map fun (k : Nat) => D.int ((ths.length : Int) - 1 - (k : Int))) ?_).trans h1)).trans (mRet_of ?_)))
  · simp! [hc]
  · simp! [W, V]
  · simp! [W, dRangeD_all (n := ths.length) (by omega)]
  · simp! [oRev, hacc', List.map_reverse]
end FL.L
set_option maxRecDepth 100000
set_option maxHeartbeats 1000000
noncomputable section
namespace FL.L
open PySem PySem.Spec PyProof.Rows L2 FL
/-! ### rows that grow less and less: a start and rises in falling order -/
def psum : List Rat → Nat → Rat
  | _, 0 => 0
  | [], _ + 1 => 0
  | x :: l, n + 1 => x + psum l n
abbrev Desc (l : List Rat) : Prop := l.Pairwise fun a b => b ≤ a
theorem psum_zero (l : List Rat) : psum l 0 = 0 := by cases l <;> rfl
theorem psum_succ : ∀ {l : List Rat} {n : Nat} {x : Rat}, l[n]? = some x → psum l (n + 1) = psum l n + x
  | [], _, _, h => by simp at h
  | y :: l, 0, x, h => by
    simp at h; subst h
    show y + psum l 0 = 0 + y
    rw [psum_zero]; grind
  | y :: l, n + 1, x, h => by
    have := psum_succ (l := l) (n := n) (x := x) (by simpa using h)
    show y + psum l (n + 1) = y + psum l n + x
    rw [this]; grind
theorem psum_append (l m : List Rat) (n : Nat) (h : n ≤ l.length) : psum (l ++ m) n = psum l n := by
  induction l generalizing n with
  | nil =>
    have : n = 0 := by simpa using h
    subst this; rw [psum_zero, psum_zero]
  | cons x l ih =>
    cases n with
    | zero => rw [psum_zero, psum_zero]
    | succ n =>
      show x + psum (l ++ m) n = x + psum l n
      rw [ih n (by simpa using h)]
theorem desc_get {l : List Rat} (h : Desc l) {i j : Nat} {x y : Rat} (hij : i ≤ j) (hx : l[i]? = some x) (hy : l[j]? = some y) : y ≤ x := by
  by_cases e : i = j
  · subst e; rw [hx] at hy; cases hy; exact Rat.le_refl
  · obtain ⟨h1, e1⟩ := List.getElem?_eq_some_iff.mp hx
    obtain ⟨h2, e2⟩ := List.getElem?_eq_some_iff.mp hy
    have := List.pairwise_iff_getElem.mp h i j h1 h2 (by omega)
    rw [e1, e2] at this; exact this
/-- a line through the place k above all others -/
theorem supp {l : List Rat} (h : Desc l) {k : Nat} {x : Rat} (hk : k ≤ l.length) (h1 : ∀ i y, k ≤ i → l[i]? = some y → y ≤ x) (h2 : ∀ i y, i < k → l[i]? = some y → x ≤ y) :
    ∀ n, n ≤ l.length → psum l n ≤ psum l k + ((n : Rat) - (k : Rat)) * x := by
  have up : ∀ d, k + d ≤ l.length → psum l (k + d) ≤ psum l k + (d : Rat) * x := fun d => by
    induction d with
    | zero => intro _; simp; grind
    | succ d ih =>
      intro hd
      have i1 := ih (by omega)
      obtain ⟨y, hy⟩ : ∃ y, l[k + d]? = some y := ⟨_, List.getElem?_eq_getElem (by omega)⟩
      have e := psum_succ hy
      have := h1 (k + d) y (by omega) hy
      rw [show k + (d + 1) = k + d + 1 by omega, e]
      have c : ((d + 1 : Nat) : Rat) = (d : Rat) + 1 := by grind
      rw [c]; grind
  have down : ∀ d, d ≤ k → psum l (k - d) ≤ psum l k - (d : Rat) * x := fun d => by
    induction d with
    | zero => intro _; simp; grind
    | succ d ih =>
      intro hd
      have i1 := ih (by omega)
      obtain ⟨y, hy⟩ : ∃ y, l[k - (d + 1)]? = some y := ⟨_, List.getElem?_eq_getElem (by omega)⟩
      have e := psum_succ hy
      have := h2 (k - (d + 1)) y (by omega) hy
      rw [show k - (d + 1) + 1 = k - d by omega] at e
      have c : ((d + 1 : Nat) : Rat) = (d : Rat) + 1 := by grind
      rw [c]; grind
  intro n hn
  by_cases c : k ≤ n
  · have := up (n - k) (by omega)
    rw [show k + (n - k) = n by omega] at this
    have e : ((n - k : Nat) : Rat) = (n : Rat) - (k : Rat) := by
      have : ((n - k + k : Nat) : Rat) = (n : Rat) := by rw [show n - k + k = n by omega]
      grind
    rw [← e]; exact this
  · have := down (k - n) (by omega)
    rw [show k - (k - n) = n by omega] at this
    have e : ((k - n : Nat) : Rat) = (k : Rat) - (n : Rat) := by
      have : ((k - n + n : Nat) : Rat) = (k : Rat) := by rw [show k - n + n = k by omega]
      grind
    rw [e] at this; grind
/-- there is one -/
theorem supp_ex {l : List Rat} (h : Desc l) {k : Nat} (hk : k ≤ l.length) : ∃ x : Rat, ∀ n, n ≤ l.length → psum l n ≤ psum l k + ((n : Rat) - (k : Rat)) * x := by
  cases k with
  | zero =>
    cases e : l[0]? with
    | none => exact ⟨0, supp h hk (fun i y _ hy => by
        have : l.length = 0 := by simpa using e
        have := (List.getElem?_eq_some_iff.mp hy).1
        omega) (fun i y hi _ => by omega)⟩
    | some x => exact ⟨x, supp h hk (fun i y _ hy => desc_get h (Nat.zero_le _) e hy) (fun i y hi _ => by omega)⟩
  | succ k =>
    obtain ⟨x, hx⟩ : ∃ x, l[k]? = some x := ⟨_, List.getElem?_eq_getElem (by omega)⟩
    exact ⟨x, supp h hk (fun i y hi hy => desc_get h (by omega) hx hy) (fun i y hi hy => desc_get h (by omega) hy hx)⟩
/-- both in falling order -/
def mrg : List Rat → List Rat → List Rat
  | [], r => r
  | x :: l, [] => x :: l
  | x :: l, y :: r => if x < y then y :: mrg (x :: l) r else x :: mrg l (y :: r)
termination_by l r => l.length + r.length
theorem mrg_nil (l : List Rat) : mrg l [] = l := by cases l <;> simp [mrg]
theorem mrg_perm (l r : List Rat) : (mrg l r).Perm (l ++ r) := by
  induction l, r using mrg.induct with
  | case1 r => simp [mrg]
  | case2 x l => simp [mrg]
  | case3 x l y r c ih =>
    rw [mrg, if_pos c]
    exact (ih.cons y).trans List.perm_middle.symm
  | case4 x l y r c ih =>
    rw [mrg, if_neg c]
    exact ih.cons x
theorem mrg_len (l r : List Rat) : (mrg l r).length = l.length + r.length := by
  rw [(mrg_perm l r).length_eq, List.length_append]
theorem mrg_desc {l r : List Rat} (hl : Desc l) (hr : Desc r) : Desc (mrg l r) := by
  induction l, r using mrg.induct with
  | case1 r => simpa [mrg] using hr
  | case2 x l => simpa [mrg] using hl
  | case3 x l y r c ih =>
    rw [mrg, if_pos c]
    have hr' := List.pairwise_cons.mp hr
    have hl' := List.pairwise_cons.mp hl
    refine List.pairwise_cons.mpr ⟨fun a ha => ?_, ih hl hr'.2⟩
    rcases List.mem_append.mp ((mrg_perm _ _).mem_iff.mp ha) with z | z
    · rcases List.mem_cons.mp z with z | z
      · subst z; exact Rat.le_of_lt c
      · exact Rat.le_trans (hl'.1 a z) (Rat.le_of_lt c)
    · exact hr'.1 a z
  | case4 x l y r c ih =>
    rw [mrg, if_neg c]
    have hr' := List.pairwise_cons.mp hr
    have hl' := List.pairwise_cons.mp hl
    have c' : y ≤ x := Rat.not_lt.mp c
    refine List.pairwise_cons.mpr ⟨fun a ha => ?_, ih hl'.2 hr⟩
    rcases List.mem_append.mp ((mrg_perm _ _).mem_iff.mp ha) with z | z
    · exact hl'.1 a z
    · rcases List.mem_cons.mp z with z | z
      · subst z; exact c'
      · exact Rat.le_trans (hr'.1 a z) c'
/-- the one list in falling order -/
theorem desc_unique {l r : List Rat} (hl : Desc l) (hr : Desc r) (p : l.Perm r) : l = r :=
  p.eq_of_pairwise (le := fun a b => b ≤ a) (fun a b _ _ h1 h2 => Rat.le_antisymm h2 h1) hl hr
theorem psum_cons_le {x : Rat} {l : List Rat} (h : Desc (x :: l)) {k : Nat} (hk : k < (x :: l).length) : psum (x :: l) (k + 1) ≤ psum (x :: l) k + x := by
  obtain ⟨y, hy⟩ : ∃ y, (x :: l)[k]? = some y := ⟨_, List.getElem?_eq_getElem hk⟩
  have := desc_get h (i := 0) (Nat.zero_le k) rfl hy
  rw [psum_succ hy]; grind
/-- the greatest sums of items with places adding up: reached .. -/
theorem mrg_at (l r : List Rat) : ∀ n, n ≤ l.length + r.length → ∃ k j, k + j = n ∧ k ≤ l.length ∧ j ≤ r.length ∧ psum (mrg l r) n = psum l k + psum r j := by
  induction l, r using mrg.induct with
  | case1 r => exact fun n hn => ⟨0, n, by omega, by simp, by simpa using hn, by simp [mrg, psum_zero]; grind⟩
  | case2 x l => exact fun n hn => ⟨n, 0, by omega, by simpa using hn, by simp, by simp [mrg, psum_zero]; grind⟩
  | case3 x l y r c ih =>
    intro n hn
    rw [mrg, if_pos c]
    cases n with
    | zero => exact ⟨0, 0, rfl, by simp, by simp, by simp [psum_zero]; grind⟩
    | succ n =>
      obtain ⟨k, j, h1, h2, h3, h4⟩ := ih n (by simp at hn ⊢; omega)
      refine ⟨k, j + 1, by omega, h2, by simpa using h3, ?_⟩
      show y + psum (mrg (x :: l) r) n = psum (x :: l) k + (y + psum r j)
      rw [h4]; grind
  | case4 x l y r c ih =>
    intro n hn
    rw [mrg, if_neg c]
    cases n with
    | zero => exact ⟨0, 0, rfl, by simp, by simp, by simp [psum_zero]; grind⟩
    | succ n =>
      obtain ⟨k, j, h1, h2, h3, h4⟩ := ih n (by simp at hn ⊢; omega)
      refine ⟨k + 1, j, by omega, by simpa using h2, h3, ?_⟩
      show x + psum (mrg l (y :: r)) n = x + psum l k + psum (y :: r) j
      rw [h4]; grind
/-- .. and never more -/
theorem mrg_ge {l r : List Rat} (hl : Desc l) (hr : Desc r) : ∀ k j, k ≤ l.length → j ≤ r.length → psum l k + psum r j ≤ psum (mrg l r) (k + j) := by
  induction l, r using mrg.induct with
  | case1 r =>
    intro k j hk _
    have : k = 0 := by simpa using hk
    subst this
    simp [mrg, psum_zero]; grind
  | case2 x l =>
    intro k j _ hj
    have : j = 0 := by simpa using hj
    subst this
    simp [mrg, psum_zero]; grind
  | case3 x l y r c ih =>
    have hr' := List.pairwise_cons.mp hr
    have ih := ih hl hr'.2
    rw [mrg, if_pos c]
    intro k j hk hj
    cases j with
    | succ j =>
      have := ih k j hk (by simpa using hj)
      show psum (x :: l) k + (y + psum r j) ≤ y + psum (mrg (x :: l) r) (k + j)
      grind
    | zero =>
      cases k with
      | zero => simp [psum_zero]; grind
      | succ k =>
        have i1 := ih k 0 (by omega) (by simp)
        have i2 := psum_cons_le hl (k := k) (by omega)
        rw [psum_zero] at i1 ⊢
        show psum (x :: l) (k + 1) + 0 ≤ y + psum (mrg (x :: l) r) (k + 0)
        grind
  | case4 x l y r c ih =>
    have hl' := List.pairwise_cons.mp hl
    have ih := ih hl'.2 hr
    have c' : y ≤ x := Rat.not_lt.mp c
    rw [mrg, if_neg c]
    intro k j hk hj
    cases k with
    | succ k =>
      have := ih k j (by simpa using hk) hj
      show x + psum l k + psum (y :: r) j ≤ psum (x :: mrg l (y :: r)) (k + 1 + j)
      rw [show k + 1 + j = (k + j) + 1 by omega]
      show x + psum l k + psum (y :: r) j ≤ x + psum (mrg l (y :: r)) (k + j)
      grind
    | zero =>
      cases j with
      | zero => simp [psum_zero]; grind
      | succ j =>
        have i1 := ih 0 j (by simp) (by omega)
        have i2 := psum_cons_le hr (k := j) (by omega)
        rw [psum_zero] at i1 ⊢
        rw [show 0 + (j + 1) = (0 + j) + 1 by omega]
        show 0 + psum (y :: r) (j + 1) ≤ x + psum (mrg l (y :: r)) (0 + j)
        grind
end FL.L
set_option maxRecDepth 100000
set_option maxHeartbeats 1000000
noncomputable section
namespace FL.L
open PySem PySem.Spec PyProof.Rows L2 FL
/-- the row's items -/
def rf (a : Rat) (rs : List Rat) : Nat → Option Rat := fun n => some (a + psum rs n)
abbrev rwD (a : Rat) (rs : List Rat) : D := rowD (rs.length + 1) (rf a rs)
theorem psum_bd {d N : Nat} (hd : d ≠ 0) : ∀ {l : List Rat}, (∀ x ∈ l, Bd d N x) → ∀ n, Bd d (l.length * N) (psum l n)
  | _, _, 0 => by rw [psum_zero]; exact Bd.zero
  | [], _, _ + 1 => Bd.zero
  | x :: l, h, n + 1 => by
    have i1 := psum_bd hd (l := l) (fun y hy => h y (List.mem_cons_of_mem _ hy)) n
    have := Bd.add hd (h x List.mem_cons_self) i1
    rw [List.length_cons, Nat.succ_mul, Nat.add_comm]
    exact this
/-- start and rises in bounds -/
structure RB (N : Nat) (a : Rat) (rs : List Rat) : Prop where
  a : Bd 6 N a
  r : ∀ x ∈ rs, Bd 6 6 x
  l : rs.length ≤ 20
  n : N ≤ 1000
theorem RB.at {N : Nat} {a : Rat} {rs : List Rat} (h : RB N a rs) (n : Nat) : Bd 6 1200 (a + psum rs n) :=
  (Bd.add (by decide) h.a (psum_bd (by decide) h.r n)).mono (by have := h.l; have := h.n; omega)
theorem r0b {N : Nat} {q : Rat} (h : Bd 6 N q) (hN : N ≤ 100000) : R0 q := h.r0 (by decide) (by decide) (Nat.lt_of_le_of_lt hN (by decide))
theorem RB.v0 {N : Nat} {a : Rat} {rs : List Rat} (h : RB N a rs) (n : Nat) : V0 (rf a rs n) := V0.some (r0b (h.at n) (by decide))
theorem cut1 {α : Type} (l : List α) : cutL l (some 1) none = l.tail := by
  unfold cutL
  rw [show (1 : Int) = ((1 : Nat) : Int) from rfl, HT.sIx_nat]
  rw [show HT.sIx l.length l.length none = l.length from rfl]
  cases l with
  | nil => rfl
  | cons x l =>
    rw [show min 1 (x :: l).length = 1 by simp]
    simp
theorem dZip_app : ∀ (l r m : List D), l.length = m.length → dZip (l ++ r) m = dZip l m
  | [], r, [], _ => by cases r <;> rfl
  | [], _, _ :: _, h => by simp at h
  | _ :: _, _, [], h => by simp at h
  | x :: l, r, y :: m, h => by
    show D.tup [x, y] :: dZip (l ++ r) m = D.tup [x, y] :: dZip l m
    rw [dZip_app l r m (by simpa using h)]
theorem range_tail (n : Nat) (φ : Nat → D) : ((List.range (n + 1)).map φ).tail = (List.range n).map fun i => φ (i + 1) := by
  rw [List.range_succ_eq_map, List.map_cons, List.tail_cons, List.map_map]; rfl
theorem sl1_row (n : Nat) (f : Nat → Option Rat) : oSlT (rowD (n + 1) f) (some 1) none = some (rowD n fun j => f (j + 1)) := by
  show some (D.tup (cutL _ _ _)) = _
  rw [cut1, range_tail]; rfl
theorem zip_tail (n : Nat) (f g : Nat → Option Rat) : dZipA [rowD (n + 1) f, rowD n g] = some ((List.range n).map fun j => D.tup [vD (f j), vD (g j)]) := by
  show some (dZip _ _) = _
  rw [List.range_succ, List.map_append, dZip_app _ _ _ (by simp), dZip_map]
theorem zipL_tail (φ : Nat → D) (n : Nat) : dZipA [.lst ((List.range n).map φ), .lst ((List.range n).map φ).tail] = some ((List.range (n - 1)).map fun j => D.tup [φ j, φ (j + 1)]) := by
  show some (dZip _ _) = _
  cases n with
  | zero => rfl
  | succ n =>
    rw [range_tail, List.range_succ, List.map_append, dZip_app _ _ _ (by simp), dZip_map]
    rfl
def rgt (rs : List Rat) (i : Nat) : Rat := (rs[i]?).getD 0
theorem rgt_eq {rs : List Rat} {i : Nat} (h : i < rs.length) : rs[i]? = some (rgt rs i) := by
  unfold rgt; rw [List.getElem?_eq_getElem h]; rfl
theorem rs_range (rs : List Rat) : rs.map rD = (List.range rs.length).map fun i => rD (rgt rs i) := by
  refine List.ext_getElem? fun i => ?_
  by_cases h : i < rs.length
  · rw [range_at _ h, List.getElem?_map, rgt_eq h]; rfl
  · rw [List.getElem?_eq_none (by simpa using h), List.getElem?_eq_none (by simpa using h)]
theorem shp_rl (rs : List Rat) : shp 9 (.lst (rs.map rD)) = true := by
  show List.all _ _ = true
  rw [List.all_eq_true]
  intro d hd
  obtain ⟨a, _, rfl⟩ := List.mem_map.mp hd
  exact shp_rD 6 a
theorem steps_ev {N : Nat} {a : Rat} {rs : List Rat} (h : RB N a rs) (t : Tape) : F_concave_steps [rwD a rs] t = some (.lst (rs.map rD), t) := by
  have hl := h.l
  refine wp_eq ?_
  simp_all! [F_concave_steps, m_concave_steps, sl1_row, zip_tail]
  refine wp_lcR _ (fun i => rD (rgt rs i)) (fun i hi => ?_) ?_
  · have e : a + psum rs (i + 1) - (a + psum rs i) = rgt rs i := by
      rw [psum_succ (rgt_eq hi)]; grind
    have s1 := subtract_ev (r0b (h.at (i + 1)) (by decide)) (r0b (h.at i) (by decide)) t
    rw [e] at s1
    simp_all! [rf, show ∀ q, vD (some q) = rD q from fun _ => rfl, s1, pln_rD]
  · simp_all! [show rs.length ≤ 100000 by omega, rs_range rs]
theorem pln_rg {α : Type} (l : List α) (φ : α → Rat) : ((l.map fun i => rD (φ i)).all fun x => pln 9 x) = true := by
  rw [List.all_eq_true]
  intro d hd
  obtain ⟨a, _, rfl⟩ := List.mem_map.mp hd
  rfl
theorem pln_rl (l : List Rat) : ((l.map rD).all fun x => pln 9 x) = true := pln_rg l id
theorem plnL_rl (l : List Rat) : plnL 1 (.lst (l.map rD)) = true := pln_rl l
theorem gAll_true {α : Type} (l : List α) : gAll [.lst (l.map fun _ => .bl true)] = some (.bl true) := by
  show (bls _).map _ = _
  rw [bls_map_true, Option.map_some, all_const_true]
theorem gAny_false {α : Type} (l : List α) : gAny [.lst (l.map fun _ => .bl false)] = some (.bl false) := by
  show (bls _).map _ = _
  rw [bls_map_false, Option.map_some]
  congr 2
  induction l with
  | nil => rfl
  | cons a l ih => simpa using ih
theorem row_row_ev {N : Nat} {a : Rat} {rs : List Rat} (h : RB N a rs) (hd : Desc rs) (t : Tape) : F_concave_is_row [rwD a rs] t = some (.bl true, t) := by
  have hl := h.l
  refine wp_eq ?_
  have hst := steps_ev h t
  have hgt : decide ((40 : Int) < ((rs.length + 1 : Nat) : Int)) = false := decide_eq_false (by omega)
  simp_all! [F_concave_is_row, m_concave_is_row, isi_row, oEq_nil_row (Nat.succ_pos rs.length) (rf a rs), gLen_row, d_concave_MOST_ITEMS, hgt, items_row]
  refine wp_lcR _ (fun i => .bl true) (fun i hi => ?_) ?_
  · simp_all! [rf, show ∀ q, vD (some q) = rD q from fun _ => rfl, is_ratio_ev]
  · simp_all! [show rs.length + 1 ≤ 100000 by omega, gAll_true, hst, rs_range rs, oSlL, cut1, zipL_tail, pln_rg]
    refine wp_lcR _ (fun i => .bl false) (fun i hi => ?_) ?_
    · have h1 : i < rs.length := by omega
      have h2 : i + 1 < rs.length := by omega
      have l1 := less_ev (r0b (h.r _ (List.mem_of_getElem? (rgt_eq h1))) (by decide)) (r0b (h.r _ (List.mem_of_getElem? (rgt_eq h2))) (by decide)) t
      rw [decide_eq_false (Rat.not_lt.mpr (desc_get hd (Nat.le_succ i) (rgt_eq h1) (rgt_eq h2)))] at l1
      simp_all! [l1]
    · simp_all! [show rs.length - 1 ≤ 100000 by omega, gAny_false]
theorem row_check_ev {N : Nat} {a : Rat} {rs : List Rat} (h : RB N a rs) (hd : Desc rs) (t : Tape) : F_concave_check_row [rwD a rs] t = some (.non, t) := by
  refine wp_eq ?_
  simp_all! [F_concave_check_row, m_concave_check_row, row_row_ev h hd t]
theorem ix0_row {m : Nat} (h : 0 < m) (f : Nat → Option Rat) : oIx (rowD m f) (.int 0) = some (vD (f 0)) := ix_row f h
theorem ne_nil (l : List Rat) : oNe (.lst (l.map rD)) (.lst []) = some (.bl (!l.isEmpty)) := by
  unfold oNe
  rw [shp_rl]
  cases l <;> rfl
theorem eq_nil (l : List Rat) : oEq (.lst (l.map rD)) (.lst []) = some (.bl l.isEmpty) := by
  unfold oEq
  rw [shp_rl]
  cases l <;> rfl
theorem RB.mrg {N M : Nat} {a b : Rat} {rs ss : List Rat} (h : RB N a rs) (g : RB M b ss) (hl : rs.length + ss.length ≤ 20) (hn : N + M ≤ 1000) : RB (N + M) (a + b) (mrg rs ss) := by
  refine ⟨Bd.add (by decide) h.a g.a, fun x hx => ?_, by rw [mrg_len]; exact hl, hn⟩
  rcases List.mem_append.mp ((mrg_perm _ _).mem_iff.mp hx) with z | z
  · exact h.r x z
  · exact g.r x z
theorem ne_c (x : Rat) (l : List Rat) : oNe (.lst (rD x :: l.map rD)) (.lst []) = some (.bl true) := ne_nil (x :: l)
theorem eq_c (x : Rat) (l : List Rat) : oEq (.lst (rD x :: l.map rD)) (.lst []) = some (.bl false) := eq_nil (x :: l)
theorem ne_n : oNe (.lst []) (.lst []) = some (.bl false) := ne_nil []
theorem eq_n : oEq (.lst []) (.lst []) = some (.bl true) := eq_nil []
theorem ix_c (x : Rat) (l : List D) : oIx (.lst (rD x :: l)) (.int 0) = some (rD x) := oIx_lst (by omega) rfl
/-- the sums so far -/
def sums (a : Rat) (l : List Rat) : List Rat := (List.range (l.length + 1)).map fun n => a + psum l n
theorem sums_last (a : Rat) (l : List Rat) : oIx (.lst ((sums a l).map rD)) (.int (-1)) = some (rD (a + psum l l.length)) := by
  show atI _ _ = _
  unfold sums
  rw [List.range_succ, List.map_append, List.map_append]
  exact atI_last _ _
theorem sums_snoc (a : Rat) (l : List Rat) (x : Rat) : sums a l ++ [a + psum l l.length + x] = sums a (l ++ [x]) := by
  unfold sums
  rw [List.length_append, List.length_singleton, List.range_succ (n := l.length + 1), List.map_append]
  congr 1
  · refine List.map_congr_left fun n hn => ?_
    rw [psum_append _ _ _ (by have := List.mem_range.mp hn; omega)]
  · show [_] = [a + psum (l ++ [x]) (l.length + 1)]
    rw [psum_succ (l := l ++ [x]) (n := l.length) (x := x) (by simp), psum_append _ _ _ (Nat.le_refl _)]
    congr 1; grind
theorem summed_ev {N M : Nat} {a b : Rat} {rs ss : List Rat} (h : RB N a rs) (g : RB M b ss) (hd : Desc rs) (gd : Desc ss) (hl : rs.length + ss.length ≤ 20) (hn : N + M ≤ 1000) (t : Tape) :
    F_concave_summed [rwD a rs, rwD b ss] t = some (rwD (a + b) (mrg rs ss), t) := by
  have hm := h.mrg g hl hn
  refine wp_eq ?_
  have ad := add_ev (r0b (h.at 0) (by decide)) (r0b (g.at 0) (by decide)) t
  rw [psum_zero, psum_zero, show a + 0 = a by grind, show b + 0 = b by grind] at ad
  simp_all! [F_concave_summed, m_concave_summed, row_check_ev h hd t, row_check_ev g gd t, ix0_row (Nat.succ_pos rs.length) (rf a rs), ix0_row (Nat.succ_pos ss.length) (rf b ss), rf, psum_zero, show a + 0 = a by grind, show b + 0 = b by grind, show ∀ q, vD (some q) = rD q from fun _ => rfl, ad, pln_rD, steps_ev h t, steps_ev g t, pln_rl, plnL_rl]
  obtain ⟨c, hc⟩ : ∃ c, c = a + b := ⟨_, rfl⟩
  obtain ⟨W, hW⟩ : ∃ W, W = mrg rs ss := ⟨_, rfl⟩
  rw [← hc, ← hW] at hm ⊢
  have hWl : W.length ≤ 20 := by rw [hW, mrg_len]; exact hl
  have vr : ∀ q, vD (some q) = rD q := fun _ => rfl
  refine wp_while (fun m ρ t' => t' = t ∧ ∃ p l r, m = l.length + r.length ∧ p ++ mrg l r = W ∧ ρ = [some (rwD a rs), some (rwD b ss), some (.lst ((sums c p).map rD)), some (.lst (l.map rD)), some (.lst (r.map rD))]) (rs.length + ss.length) (by omega) ⟨rfl, [], rs, ss, rfl, hW.symm, by unfold sums; simp [psum_zero]; grind⟩ (fun m ρ t' ⟨ht, p, l, r, hm', hp, hρ⟩ => ?_)
  subst ht hρ
  have hpl : p.length ≤ 20 := by rw [← hp, List.length_append] at hWl; omega
  have hadd : ∀ x, x ∈ mrg l r → F_ratios_add [rD (c + psum p p.length), rD x] t' = some (rD (c + psum p p.length + x), t') := fun x hx => by
    have h1 := hm.at p.length
    rw [← hp, psum_append _ _ _ (Nat.le_refl _)] at h1
    exact add_ev (r0b h1 (by decide)) (r0b (hm.r x (by rw [← hp]; exact List.mem_append_right _ hx)) (by decide)) t'
  have hsm : (sums c p).length ≤ 100000 := by unfold sums; simp; omega
  have hss : ∀ x, (sums c p).map rD ++ [rD (c + psum p p.length + x)] = (sums c (p ++ [x])).map rD := fun x => by rw [← sums_snoc, List.map_append]; rfl
  have left : ∀ {K : Out → Prop} x l', l = x :: l' → mrg l r = x :: mrg l' r → r.length ≤ 20 → l.length ≤ 20 → wp (mAppX 2 (mCallX F_ratios_add (mOp oIx (mVar 2) (mUn oNeg (mC (D.int 1)))) (mPopAt 3 (mC (D.int 0)))) [some (rwD a rs), some (rwD b ss), some (.lst ((sums c p).map rD)), some (.lst (l.map rD)), some (.lst (r.map rD))] t') (loopK (fun ρ t_1 => ∃ m', m' < m ∧ t_1 = t' ∧ ∃ p l r, m' = l.length + r.length ∧ p ++ mrg l r = W ∧ ρ = [some (rwD a rs), some (rwD b ss), some (.lst ((sums c p).map rD)), some (.lst (l.map rD)), some (.lst (r.map rD))]) K) := fun x l' e1 e2 hr hl' => by
    have ha := hadd x (by rw [e2]; exact List.mem_cons_self)
    subst e1
    have hl2 : l'.length + 1 ≤ 100000 := by simp at hl'; omega
    simp_all! [y_appX, y_callX, y_pop0, sums_last, ha, pln_rD, hsm, hl2]
    refine ⟨l'.length + r.length, by first | omega | (simp at hm'; omega), p ++ [x], l', r, rfl, ?_, ?_⟩
    · rw [List.append_assoc, ← hp, e2]; rfl
    · rw [hss]; rfl
  have right : ∀ {K : Out → Prop} x r', r = x :: r' → mrg l r = x :: mrg l r' → r.length ≤ 20 → wp (mAppX 2 (mCallX F_ratios_add (mOp oIx (mVar 2) (mUn oNeg (mC (D.int 1)))) (mPopAt 4 (mC (D.int 0)))) [some (rwD a rs), some (rwD b ss), some (.lst ((sums c p).map rD)), some (.lst (l.map rD)), some (.lst (r.map rD))] t') (loopK (fun ρ t_1 => ∃ m', m' < m ∧ t_1 = t' ∧ ∃ p l r, m' = l.length + r.length ∧ p ++ mrg l r = W ∧ ρ = [some (rwD a rs), some (rwD b ss), some (.lst ((sums c p).map rD)), some (.lst (l.map rD)), some (.lst (r.map rD))]) K) := fun x r' e1 e2 hr => by
    have ha := hadd x (by rw [e2]; exact List.mem_cons_self)
    subst e1
    have hl2 : r'.length + 1 ≤ 100000 := by simp at hr; omega
    simp_all! [y_appX, y_callX, y_pop0, sums_last, ha, pln_rD, hsm, hl2]
    refine ⟨l.length + r'.length, by first | omega | (simp at hm'; omega), p ++ [x], l, r', rfl, ?_, ?_⟩
    · rw [List.append_assoc, ← hp, e2]; rfl
    · rw [hss]; rfl
  have hlr : l.length ≤ 20 ∧ r.length ≤ 20 := by
    rw [← hp, List.length_append, mrg_len] at hWl; omega
  cases l with
  | nil =>
    cases r with
    | nil =>
      have e : p = W := by rw [← hp]; simp [mrg]
      simp_all! [ne_n]
      rw [e]
      unfold sums
      rw [List.map_map]; rfl
    | cons y r =>
      have rt := fun K => right (K := K) y r rfl (by simp [mrg]) hlr.2
      simp_all! [ne_n, eq_n, ne_c, eq_c]
      exact rt _
  | cons x l =>
    cases r with
    | nil =>
      have lf := fun K => left (K := K) x l rfl (by simp [mrg_nil]) hlr.2 hlr.1
      simp_all! [ne_n, eq_n, ne_c, eq_c]
      exact lf _
    | cons y r =>
      have hmem : ∀ z, z ∈ (x :: l) ++ (y :: r) → R0 z := fun z hz => r0b (hm.r z (by rw [← hp]; exact List.mem_append_right _ ((mrg_perm _ _).mem_iff.mpr hz))) (by decide)
      have hx : R0 x := hmem x (by simp)
      have hy : R0 y := hmem y (by simp)
      have le := less_ev hx hy t'
      by_cases c : x < y
      · have rt := fun K => right (K := K) y r rfl (by rw [mrg, if_pos c]) hlr.2
        rw [decide_eq_true c] at le
        simp_all! [ne_n, eq_n, ne_c, eq_c, ix_c, le]
        exact rt _
      · have lf := fun K => left (K := K) x l rfl (by rw [mrg, if_neg c]) hlr.2 hlr.1
        rw [decide_eq_false c] at le
        simp_all! [ne_n, eq_n, ne_c, eq_c, ix_c, le]
        exact lf _
end FL.L
set_option maxRecDepth 100000
set_option maxHeartbeats 1000000
noncomputable section
namespace FL.L
open PySem PySem.Spec PyProof.Rows L2 FL
theorem Bd.dvd {d e N : Nat} {q : Rat} (h : Bd d N q) (hd : d ∣ e) : Bd e N q := ⟨Nat.dvd_trans h.1 hd, h.2⟩
theorem norm_div (a : Int) {b : Nat} (hb : b ≠ 0) : Rat.normalize a b hb = (a : Rat) / (b : Rat) := by
  rw [Rat.normalize_eq_mkRat, Rat.mkRat_eq_div]
theorem mean_eq (x : Rat) {n : Nat} (hn : 0 < n) (h : x.den * n ≠ 0) : Rat.normalize x.num (x.den * n) h = x / (n : Rat) := by
  rw [norm_div]
  have h1 : ((x.den * n : Nat) : Rat) = (x.den : Rat) * (n : Rat) := by grind
  have h2 : (x.num : Rat) / (x.den : Rat) = x := by rw [← Rat.mkRat_eq_div]; exact Rat.mkRat_self x
  have h3 : (x.den : Rat) ≠ 0 := by have := x.den_nz; intro z; exact this (by exact_mod_cast z)
  have h4 : (n : Rat) ≠ 0 := by intro z; have : n = 0 := by exact_mod_cast z
                                omega
  rw [h1]
  generalize (x.num : Rat) = p at *
  generalize (x.den : Rat) = q at *
  rw [← h2]
  grind
theorem mean_ev {x : Rat} (hx : R0 x) (n : Nat) (hn : 0 < n) (hn2 : n ≤ 1000) (t : Tape) : F_values_mean [rD x, .int n] t = some (rD (x / (n : Rat)), t) := by
  have h0 : x.den * n ≠ 0 := Nat.mul_ne_zero x.den_nz (by omega)
  have m1 := oMul_int (i := (x.den : Int)) (j := (n : Int)) hx.smd (Sm.of (by omega))
  have hs2 : Sm ((x.den * n : Nat) : Int) := by
    unfold Sm
    rw [Int.natAbs_natCast]
    have h1 : x.den * n < 2 ^ 1900 * 2 ^ 1900 := Nat.mul_lt_mul'' hx.2 (Nat.lt_of_le_of_lt hn2 (Nat.lt_of_lt_of_le (show 1000 < 2 ^ 10 by decide) (two_pow_le (by decide))))
    exact Nat.lt_of_lt_of_le h1 (by rw [← Nat.pow_add]; exact two_pow_le (by decide))
  have mk := make_ev x.num (x.den * n) h0 hs2 t
  rw [mean_eq x hn h0, Int.natCast_mul] at mk
  refine wp_eq ?_
  have i0 : oIx (rD x) (.int 0) = some (.int x.num) := rfl
  have i1 : oIx (rD x) (.int 1) = some (.int x.den) := rfl
  simp_all! [F_values_mean, m_values_mean, i0, i1, m1, mk, pln_rD]
/-- the height at k of the line from l to h -/
def ln (f : Nat → Rat) (l h k : Nat) : Rat := f l + (f h - f l) * (((k - l : Nat) : Nat) : Rat) / (((h - l : Nat) : Nat) : Rat)
theorem div_bd {d N n : Nat} {x : Rat} (h : Bd d N x) (hn : 0 < n) (hd : 0 < d) : Bd (d * n) (N * d) (x / (n : Rat)) := by
  have h0 : x.den * n ≠ 0 := Nat.mul_ne_zero x.den_nz (by omega)
  rw [← mean_eq x hn h0]
  exact norm_bd h0 (Nat.mul_dvd_mul_right h.1 n) (Nat.le_trans h.2 (Nat.mul_le_mul_left _ (Nat.le_of_dvd hd h.1)))
theorem Bd.mulN {d N : Nat} {x : Rat} (hd : d ≠ 0) (h : Bd d N x) (n : Nat) : Bd d (n * N) (x * (n : Rat)) := by
  induction n with
  | zero => rw [show x * ((0 : Nat) : Rat) = 0 by grind]; exact Bd.zero
  | succ n ih =>
    rw [show x * ((n + 1 : Nat) : Rat) = x * (n : Rat) + x by grind, Nat.succ_mul]
    exact Bd.add hd ih h
theorem between_ev {f : Nat → Rat} {N : Nat} (hf : ∀ i, Bd 6 N (f i)) (hN : N ≤ 2000) {l h k : Nat} (h1 : l < k) (h2 : k < h) (hh : h ≤ 100) (t : Tape) : F_polys_between [.int l, rD (f l), .int h, rD (f h), .int k] t = some (rD (ln f l h k), t) ∧ R0 (ln f l h k) := by
  have b1 := Bd.sub (by decide) (hf h) (hf l)
  have b2 := Bd.mulN (by decide) b1 (k - l)
  have b3 := div_bd b2 (show 0 < h - l by omega) (by decide)
  have b4 := (hf l).dvd (Nat.dvd_mul_right 6 (h - l))
  have b5 := Bd.add (by omega) b4 b3
  have le1 : (k - l) * (N + N) ≤ 100 * 4000 := Nat.mul_le_mul (by omega) (by omega)
  have r5 : R0 (ln f l h k) := b5.r0 (by omega) (Nat.lt_of_le_of_lt (show 6 * (h - l) ≤ 600 by omega) (Nat.lt_of_lt_of_le (show 600 < 2 ^ 10 by decide) (two_pow_le (by decide)))) (Nat.lt_of_le_of_lt (show N + (k - l) * (N + N) * 6 ≤ 2000 + 100 * 4000 * 6 by omega) (Nat.lt_of_lt_of_le (show 2000 + 100 * 4000 * 6 < 2 ^ 30 by decide) (two_pow_le (by decide))))
  refine ⟨?_, r5⟩
  have r1 : R0 (f h - f l) := r0b b1 (by omega)
  have r2 : R0 ((f h - f l) * ((k - l : Nat) : Rat)) := b2.r0 (by decide) (by decide) (Nat.lt_of_le_of_lt le1 (Nat.lt_of_lt_of_le (show 100 * 4000 < 2 ^ 30 by decide) (two_pow_le (by decide))))
  have r3 : R0 ((f h - f l) * ((k - l : Nat) : Rat) / ((h - l : Nat) : Rat)) := b3.r0 (by omega) (Nat.lt_of_le_of_lt (show 6 * (h - l) ≤ 600 by omega) (Nat.lt_of_lt_of_le (show 600 < 2 ^ 10 by decide) (two_pow_le (by decide)))) (Nat.lt_of_le_of_lt (show (k - l) * (N + N) * 6 ≤ 100 * 4000 * 6 by omega) (Nat.lt_of_lt_of_le (show 100 * 4000 * 6 < 2 ^ 30 by decide) (two_pow_le (by decide))))
  have s1 := subtract_ev (r0b (hf h) (by omega)) (r0b (hf l) (by omega)) t
  have rn : R0 ((k - l : Nat) : Rat) := by
    have := R0.int (n := ((k - l : Nat) : Int)) (by rw [Int.natAbs_natCast]; exact Nat.lt_of_le_of_lt (show k - l ≤ 100 by omega) (Nat.lt_of_lt_of_le (show 100 < 2 ^ 10 by decide) (two_pow_le (by decide))))
    exact this
  have e1 : D.tup [.int ((k : Int) - (l : Int)), .int 1] = rD ((k - l : Nat) : Rat) := by
    rw [show (k : Int) - (l : Int) = ((k - l : Nat) : Int) by omega]; rfl
  have m1 := multiply_ev r1 rn t
  have mn := mean_ev r2 (h - l) (by omega) (by omega) t
  rw [show ((h - l : Nat) : Int) = (h : Int) - (l : Int) by omega] at mn
  have pl := plus_ev (V0.some (r0b (hf l) (by omega))) (V0.some r3) t
  have vr : ∀ q, vD (some q) = rD q := fun _ => rfl
  rw [vr, vr, show vplus (some (f l)) (some ((f h - f l) * ((k - l : Nat) : Rat) / ((h - l : Nat) : Rat))) = some (ln f l h k) from rfl, vr] at pl
  refine wp_eq ?_
  simp_all! [F_polys_between, m_polys_between, s1, pln_rD, e1, m1, mn, pl]
end FL.L
set_option maxRecDepth 100000
set_option maxHeartbeats 1000000
noncomputable section
namespace FL.L
open PySem PySem.Spec PyProof.Rows L2 FL
theorem rowD_map (m : Nat) (F : Nat → Option Rat) : rowD m F = .tup (((List.range m).map F).map vD) := by
  rw [List.map_map]; rfl
theorem dEnum_range (φ : Nat → D) (m : Nat) : dEnum 0 ((List.range m).map φ) = (List.range m).map fun (i : Nat) => D.tup [.int i, φ i] := by
  refine List.ext_getElem? fun i => ?_
  by_cases h : i < m
  · rw [range_at _ h]
    obtain ⟨d, hd⟩ : ∃ d, (dEnum 0 ((List.range m).map φ))[i]? = some d := ⟨_, List.getElem?_eq_getElem (by rw [dEnum_len]; simpa using h)⟩
    obtain ⟨x, h1, h2⟩ := dEnum_get _ _ _ _ hd
    rw [range_at _ h] at h1
    cases h1
    rw [hd, h2, Nat.zero_add]
  · rw [List.getElem?_eq_none (by rw [dEnum_len]; simpa using h), List.getElem?_eq_none (by simpa using h)]
theorem enumA_row (m : Nat) (F : Nat → Option Rat) : dEnumA [rowD m F] = some ((List.range m).map fun (i : Nat) => D.tup [.int i, vD (F i)]) := by
  show some (dEnum 0 _) = _
  rw [dEnum_range]
/-- what the full one's item is the greatest of -/
def Cand (f : Nat → Rat) (m k : Nat) (x : Option Rat) : Prop := x = some (f k) ∨ ∃ l h, l < k ∧ k < h ∧ h < m ∧ x = some (ln f l h k)
def CandP (f : Nat → Rat) (m k l0 h0 : Nat) (x : Option Rat) : Prop := x = some (f k) ∨ ∃ l h, l < k ∧ k < h ∧ h < m ∧ (l < l0 ∨ l = l0 ∧ h < h0) ∧ x = some (ln f l h k)
theorem check_row_poly {f : Nat → Rat} {m : Nat} (hm : 0 < m) (hm2 : m ≤ 31) (t : Tape) : F_polys_check_poly [rowD m fun i => some (f i)] t = some (.non, t) := by
  rw [rowD_map]
  refine check_poly_ev _ t (by simpa using hm2) fun _ => ⟨f (m - 1), ?_⟩
  obtain ⟨n, rfl⟩ : ∃ n, m = n + 1 := ⟨m - 1, by omega⟩
  rw [List.range_succ, List.map_append, List.map_singleton, List.getLast?_concat]; rfl
theorem full_ev {f : Nat → Rat} {N m : Nat} (hf : ∀ i, Bd 6 N (f i)) (hN : N ≤ 2000) (hm : 0 < m) (hm2 : m ≤ 31) (t : Tape) : ∃ g, F_polys_full [rowD m fun i => some (f i)] t = some (rowD m g, t) ∧ ∀ k, k < m → SupOf (Cand f m k) (g k) := by
  suffices h : wp (F_polys_full [rowD m fun i => some (f i)] t) fun o => ∃ g, o = (rowD m g, t) ∧ ∀ k, k < m → SupOf (Cand f m k) (g k) by
    obtain ⟨o, e, g, rfl, h⟩ := h
    exact ⟨g, e, h⟩
  have cp := check_row_poly (f := f) hm hm2 t
  have vr : ∀ q, vD (some q) = rD q := fun _ => rfl
  have isn : ∀ q, oIsNot (rD q) .non = some (.bl true) := fun _ => rfl
  simp_all! [F_polys_full, m_polys_full, cp, enumA_row]
  refine wp_lcR _ (fun i => .int i) (fun i hi => ?_) ?_
  · simp_all! [vr, isn]
  have hr := range1 (n := m) (by omega)
  simp_all! [show m ≤ 100000 by omega, gLen_row, hr]
  obtain ⟨A, hA⟩ : ∃ A, A = some (rowD m fun i => some (f i)) := ⟨_, rfl⟩
  obtain ⟨Kn, hKn⟩ : ∃ Kn, Kn = some (D.lst ((List.range m).map fun (i : Nat) => D.int i)) := ⟨_, rfl⟩
  refine wp_forR _ (fun i ρ t' => t' = t ∧ ∃ G x1 x4 x5 x6 x7, ρ = [A, x1, Kn, some (.lst (List.map vD G)), x4, x5, x6, x7] ∧ G.length = i ∧ ∀ j v, G[j]? = some v → SupOf (Cand f m j) v) ⟨rfl, [], _, _, _, _, _, by rw [hA, hKn]; rfl, rfl, by simp⟩ (fun k ρ t' hk ⟨ht, G, x1, x4, x5, x6, x7, hρ, hG, hS⟩ => ?_) (fun ρ t' ⟨ht, G, x1, x4, x5, x6, x7, hρ, hG, hS⟩ => ?_)
  · subst ht hρ
    have ixk := ix_row (m := m) (fun i => some (f i)) hk
    subst hA hKn
    simp_all! [ixk]
    refine wp_forR _ (fun l ρ t2 => t2 = t' ∧ ∃ best x5 x6, ρ = [some (rowD m fun i => some (f i)), some (.int k), some (D.lst ((List.range m).map fun (i : Nat) => D.int i)), some (.lst (List.map vD G)), some (vD best), x5, x6, x7] ∧ SupOf (CandP f m k l 0) best) ⟨rfl, some (f k), _, _, rfl, ?_⟩ (fun l ρ t2 hl ⟨ht, best, x5, x6, hρ, hb⟩ => ?_) (fun ρ t2 ⟨ht, best, x5, x6, hρ, hb⟩ => ?_)
    · refine ⟨fun x hx => ?_, .inr (.inl rfl)⟩
      rcases hx with hx | ⟨l, h, _, _, _, h4, _⟩
      · rw [hx]; exact vle_refl _
      · omega
    · subst ht hρ
      simp_all! []
      refine wp_forR _ (fun h ρ t3 => t3 = t2 ∧ ∃ best x6, ρ = [some (rowD m fun i => some (f i)), some (.int k), some (D.lst ((List.range m).map fun (i : Nat) => D.int i)), some (.lst (List.map vD G)), some (vD best), some (.int l), x6, x7] ∧ SupOf (CandP f m k l h) best) ⟨rfl, best, _, rfl, hb⟩ (fun h ρ t3 hh ⟨ht, best, x6, hρ, hb⟩ => ?_) (fun ρ t3 ⟨ht, best, x6, hρ, hb⟩ => ?_)
      · subst ht hρ
        by_cases c : l < k ∧ k < h
        · obtain ⟨c1, c2⟩ := c
          have d1 : decide ((l : Int) < (k : Int)) = true := decide_eq_true (by omega)
          have d2 : decide ((k : Int) < (h : Int)) = true := decide_eq_true (by omega)
          obtain ⟨bt, r0⟩ := between_ev hf hN c1 c2 (by omega) t3
          have v0 : V0 best := hb.V0 fun x hx => by
            rcases hx with hx | ⟨l', h', h1, h2, h3, _, hx⟩
            · rw [hx]; exact V0.some (r0b (hf k) (by omega))
            · rw [hx]; exact V0.some (between_ev hf hN h1 h2 (by omega) t3).2
          have gr := greater_ev v0 (V0.some r0) t3
          rw [vr] at gr
          simp_all! [d1, d2, ix_row (m := m) (fun i => some (f i)) (show l < m by omega), ix_row (m := m) (fun i => some (f i)) hh, vr, bt, pln_rD, gr, pln_vD]
          refine ⟨_, _, rfl, hb.max fun x => ⟨?_, ?_⟩⟩
          · rintro (hx | ⟨l', h', h1, h2, h3, h4, hx⟩)
            · exact .inl (.inl hx)
            · by_cases z : l' = l ∧ h' = h
              · obtain ⟨rfl, rfl⟩ := z; exact .inr hx
              · exact .inl (.inr ⟨l', h', h1, h2, h3, by omega, hx⟩)
          · rintro ((hx | ⟨l', h', h1, h2, h3, h4, hx⟩) | hx)
            · exact .inl hx
            · exact .inr ⟨l', h', h1, h2, h3, by omega, hx⟩
            · exact .inr ⟨l, h, c1, c2, hh, by omega, hx⟩
        · have hb' : SupOf (CandP f m k l (h + 1)) best := hb.congr fun x => ⟨by
            rintro (hx | ⟨l', h', h1, h2, h3, h4, hx⟩)
            · exact .inl hx
            · by_cases z : l' = l ∧ h' = h
              · obtain ⟨rfl, rfl⟩ := z; exact absurd ⟨h1, h2⟩ c
              · exact .inr ⟨l', h', h1, h2, h3, by omega, hx⟩, by
            rintro (hx | ⟨l', h', h1, h2, h3, h4, hx⟩)
            · exact .inl hx
            · exact .inr ⟨l', h', h1, h2, h3, by omega, hx⟩⟩
          by_cases c1 : l < k
          · have d1 : decide ((l : Int) < (k : Int)) = true := decide_eq_true (by omega)
            have d2 : decide ((k : Int) < (h : Int)) = false := decide_eq_false (by omega)
            simp_all! [d1, d2]
            exact ⟨_, _, rfl, hb'⟩
          · have d1 : decide ((l : Int) < (k : Int)) = false := decide_eq_false (by omega)
            simp_all! [d1]
            exact ⟨_, _, rfl, hb'⟩
      · subst ht hρ
        refine ⟨rfl, best, _, _, rfl, hb.congr fun x => ⟨?_, ?_⟩⟩
        · rintro (hx | ⟨l', h', h1, h2, h3, h4, hx⟩)
          · exact .inl hx
          · exact .inr ⟨l', h', h1, h2, h3, by omega, hx⟩
        · rintro (hx | ⟨l', h', h1, h2, h3, h4, hx⟩)
          · exact .inl hx
          · exact .inr ⟨l', h', h1, h2, h3, by omega, hx⟩
    · subst ht hρ
      have hc : SupOf (Cand f m k) best := hb.congr fun x => ⟨?_, ?_⟩
      · simp_all! [show G.length ≤ 100000 by omega]
        refine ⟨G ++ [best], _, _, _, _, _, by rw [List.map_append]; rfl, by simp; omega, fun j v hv => ?_⟩
        by_cases z : j < G.length
        · rw [List.getElem?_append_left z] at hv
          exact hS j v hv
        · have hj : j = G.length := by
            have := (List.getElem?_eq_some_iff.mp hv).1
            simp at this; omega
          subst hj
          simp at hv
          subst hv
          first | exact hc | (rw [hG]; exact hc)
      · rintro (hx | ⟨l', h', h1, h2, h3, hx⟩)
        · exact .inl hx
        · exact .inr ⟨l', h', h1, h2, h3, by omega, hx⟩
      · rintro (hx | ⟨l', h', h1, h2, h3, h4, hx⟩)
        · exact .inl hx
        · exact .inr ⟨l', h', h1, h2, h3, hx⟩
  · subst ht hρ
    simp_all! []
    have e : G = (List.range m).map fun j => (G[j]?).getD none := by
      refine List.ext_getElem? fun j => ?_
      by_cases z : j < m
      · rw [range_at _ z]
        obtain ⟨v, hv⟩ : ∃ v, G[j]? = some v := ⟨_, List.getElem?_eq_getElem (by omega)⟩
        rw [hv]; rfl
      · rw [List.getElem?_eq_none (by omega), List.getElem?_eq_none (by simpa using z)]
    refine ⟨fun j => (G[j]?).getD none, ?_, fun j hj => ?_⟩
    · rw [rowD_map, ← e]
    · obtain ⟨v, hv⟩ : ∃ v, G[j]? = some v := ⟨_, List.getElem?_eq_getElem (by omega)⟩
      show SupOf _ ((G[j]?).getD none)
      rw [hv]; exact hS j v hv
end FL.L
set_option maxRecDepth 100000
set_option maxHeartbeats 1000000
noncomputable section
namespace FL.L
open PySem PySem.Spec PyProof.Rows L2 FL
theorem mid_le {u v y x p q : Rat} (hp : 0 < p) (hq : 0 < q) (h1 : u ≤ y - p * x) (h2 : v ≤ y + q * x) : u + (v - u) * p / (p + q) ≤ y := by
  have a1 := Rat.mul_le_mul_of_nonneg_right h1 (Rat.le_of_lt hq)
  have a2 := Rat.mul_le_mul_of_nonneg_right h2 (Rat.le_of_lt hp)
  have hpq : 0 < p + q := by grind
  have hne : p + q ≠ 0 := by grind
  have e : u + (v - u) * p / (p + q) = (u * q + v * p) / (p + q) := by
    have : (u + (v - u) * p / (p + q)) * (p + q) = u * q + v * p := by grind
    grind
  rw [e]
  have b : u * q + v * p ≤ y * (p + q) := by grind
  have e2 : (u * q + v * p) / (p + q) * (p + q) = u * q + v * p := by grind
  exact Rat.le_of_mul_le_mul_right (by rw [e2]; exact b) hpq
theorem cast_sub' {a b : Nat} (h : a ≤ b) : ((b - a : Nat) : Rat) = (b : Rat) - (a : Rat) := by
  have : ((b - a + a : Nat) : Rat) = (b : Rat) := by rw [show b - a + a = b by omega]
  grind
theorem cast_pos' {a b : Nat} (h : a < b) : (0 : Rat) < ((b - a : Nat) : Rat) := by
  have : ((0 : Nat) : Rat) < ((b - a : Nat) : Rat) := by exact_mod_cast (show 0 < b - a by omega)
  simpa using this
theorem ln_le {f : Nat → Rat} {l h k : Nat} {y x : Rat} (h1 : l < k) (h2 : k < h) (a : f l ≤ y + ((l : Rat) - (k : Rat)) * x) (b : f h ≤ y + ((h : Rat) - (k : Rat)) * x) : ln f l h k ≤ y := by
  unfold ln
  have e : ((h - l : Nat) : Rat) = ((k - l : Nat) : Rat) + ((h - k : Nat) : Rat) := by
    rw [cast_sub' (by omega), cast_sub' (by omega), cast_sub' (by omega)]; grind
  rw [e]
  refine mid_le (x := x) (cast_pos' h1) (cast_pos' h2) ?_ ?_
  · rw [cast_sub' (by omega)]; grind
  · rw [cast_sub' (by omega)]; grind
/-- a place with a line above all others holds the greatest -/
theorem sup_at {f : Nat → Rat} {m k : Nat} {x y : Rat} (hl : ∀ n, n < m → f n ≤ y + ((n : Rat) - (k : Rat)) * x) (hk : k < m) (hy : Cand f m k (some y)) : SupOf (Cand f m k) (some y) := by
  refine ⟨fun z hz => ?_, .inr hy⟩
  rcases hz with hz | ⟨l, h, h1, h2, h3, hz⟩
  · rw [hz]
    have := hl k hk
    show f k ≤ y
    grind
  · rw [hz]
    exact ln_le h1 h2 (hl l (by omega)) (hl h h3)
theorem full_row {N : Nat} {a : Rat} {rs : List Rat} (h : RB N a rs) (hd : Desc rs) (t : Tape) : F_polys_full [rwD a rs] t = some (rwD a rs, t) := by
  have hl := h.l
  obtain ⟨g, e, hg⟩ := full_ev (f := fun n => a + psum rs n) (N := 1200) (m := rs.length + 1) (fun i => h.at i) (by decide) (by omega) (by omega) t
  show F_polys_full [rowD (rs.length + 1) fun n => some (a + psum rs n)] t = _
  rw [e]
  show some (rowD (rs.length + 1) g, t) = some (rowD (rs.length + 1) fun n => some (a + psum rs n), t)
  rw [rowD_congr (f := g) (g := fun n => some (a + psum rs n)) fun k hk => ?_]
  obtain ⟨x, hx⟩ := supp_ex hd (k := k) (by omega)
  refine (hg k hk).uniq (sup_at (x := x) (fun n hn => ?_) hk (.inl rfl))
  have := hx n (by omega)
  grind
/-! ### the chain above the points -/
def sl (f : Nat → Rat) (a b : Nat) : Rat := (f b - f a) / ((b : Rat) - (a : Rat))
theorem lt_cast {a b : Nat} (h : a < b) : (a : Rat) < (b : Rat) := by exact_mod_cast h
theorem le_cast {a b : Nat} (h : a ≤ b) : (a : Rat) ≤ (b : Rat) := by exact_mod_cast h
theorem sl_eq (f : Nat → Rat) {a b : Nat} (h : a < b) : f b = f a + sl f a b * ((b : Rat) - (a : Rat)) := by
  have := lt_cast h
  unfold sl
  have hne : (b : Rat) - (a : Rat) ≠ 0 := by grind
  have : (f b - f a) / ((b : Rat) - (a : Rat)) * ((b : Rat) - (a : Rat)) = f b - f a := by grind
  grind
theorem mul_mono {s t d : Rat} (h : s ≤ t) (hd : 0 ≤ d) : s * d ≤ t * d := Rat.mul_le_mul_of_nonneg_right h hd
/-- the edges of a chain, its top first: all points up to m are below each one's line -/
def Edges (f : Nat → Rat) (m : Nat) : List Nat → Prop
  | [] => False
  | [a] => a = 0
  | b :: a :: r => a < b ∧ (∀ n, n ≤ m → f n ≤ f a + sl f a b * ((n : Rat) - (a : Rat))) ∧ Edges f m (a :: r)
def bend (f : Nat → Rat) (a b c : Nat) : Bool := decide (sl f b c < sl f a b)
/-- what is left of the chain when c comes -/
def cut (f : Nat → Rat) (c : Nat) : List Nat → List Nat
  | b :: a :: r => if bend f a b c then b :: a :: r else cut f c (a :: r)
  | r => r
theorem edges_up {f : Nat → Rat} {m : Nat} : ∀ (r : List Nat) (b : Nat), b ≤ m → Edges f m (b :: r) → (∀ a r', r = a :: r' → f (m + 1) ≤ f a + sl f a b * (((m + 1 : Nat) : Rat) - (a : Rat))) → Edges f (m + 1) (b :: r)
  | [], b, _, h, _ => h
  | a :: r, b, hb, h, hu => by
    obtain ⟨h1, h2, h3⟩ := h
    have up := hu a r rfl
    refine ⟨h1, fun n hn => ?_, edges_up r a (by omega) h3 fun a' r' e => ?_⟩
    · by_cases z : n ≤ m
      · exact h2 n z
      · rw [show n = m + 1 by omega]; exact up
    · subst e
      obtain ⟨g1, g2, _⟩ := h3
      have gb := g2 b hb
      have e1 := sl_eq f g1
      have e2 := sl_eq f h1
      have c1 := lt_cast g1
      have c2 := lt_cast h1
      have c3 := lt_cast (show a < m + 1 by omega)
      -- the slope before is at least this one's
      have sge : sl f a b ≤ sl f a' a := by
        have : sl f a b * ((b : Rat) - (a : Rat)) ≤ sl f a' a * ((b : Rat) - (a : Rat)) := by grind
        exact Rat.le_of_mul_le_mul_right this (by grind)
      have := mul_mono sge (show (0 : Rat) ≤ ((m + 1 : Nat) : Rat) - (a : Rat) by grind)
      grind
theorem cut_ok {f : Nat → Rat} {m : Nat} : ∀ (r : List Nat) (b : Nat), b ≤ m → Edges f m (b :: r) → (∀ n, b ≤ n → n ≤ m → f n ≤ f b + sl f b (m + 1) * ((n : Rat) - (b : Rat))) → Edges f (m + 1) ((m + 1) :: cut f (m + 1) (b :: r))
  | [], b, hb, h, hn => by
    have h0 : b = 0 := h
    refine ⟨by omega, fun n hnm => ?_, h⟩
    by_cases z : n ≤ m
    · exact hn n (by omega) z
    · rw [show n = m + 1 by omega]
      have := sl_eq f (show b < m + 1 by omega)
      grind
  | a :: r, b, hb, h, hn => by
    obtain ⟨h1, h2, h3⟩ := id h
    have c1 := lt_cast h1
    have c2 := lt_cast (show b < m + 1 by omega)
    have e1 := sl_eq f h1
    have e2 := sl_eq f (show b < m + 1 by omega)
    have e3 := sl_eq f (show a < m + 1 by omega)
    unfold cut
    by_cases z : sl f b (m + 1) < sl f a b
    · have zb : bend f a b (m + 1) = true := decide_eq_true z
      rw [if_pos zb]
      have up : f (m + 1) ≤ f a + sl f a b * (((m + 1 : Nat) : Rat) - (a : Rat)) := by
        have := mul_mono (Rat.le_of_lt z) (show (0 : Rat) ≤ ((m + 1 : Nat) : Rat) - (b : Rat) by grind)
        grind
      refine ⟨by omega, fun n hnm => ?_, edges_up _ b hb h fun a' r' e => by cases e; exact up⟩
      by_cases c : b ≤ n
      · by_cases c' : n ≤ m
        · exact hn n c c'
        · rw [show n = m + 1 by omega]; grind
      · have c3 := lt_cast (show n < b by omega)
        have g := h2 n (by omega)
        have := mul_mono (Rat.le_of_lt z) (show (0 : Rat) ≤ (b : Rat) - (n : Rat) by grind)
        grind
    · have zb : bend f a b (m + 1) = false := decide_eq_false z
      rw [if_neg (by rw [zb]; exact Bool.false_ne_true)]
      have z' := Rat.not_lt.mp z
      -- slopes: ab ≤ ac ≤ bc
      have s1 : sl f a b ≤ sl f a (m + 1) := by
        have := mul_mono z' (show (0 : Rat) ≤ ((m + 1 : Nat) : Rat) - (b : Rat) by grind)
        have : sl f a b * (((m + 1 : Nat) : Rat) - (a : Rat)) ≤ sl f a (m + 1) * (((m + 1 : Nat) : Rat) - (a : Rat)) := by grind
        exact Rat.le_of_mul_le_mul_right this (by grind)
      have s2 : sl f a (m + 1) ≤ sl f b (m + 1) := by
        have := mul_mono z' (show (0 : Rat) ≤ (b : Rat) - (a : Rat) by grind)
        have : sl f a (m + 1) * (((m + 1 : Nat) : Rat) - (a : Rat)) ≤ sl f b (m + 1) * (((m + 1 : Nat) : Rat) - (a : Rat)) := by grind
        exact Rat.le_of_mul_le_mul_right this (by grind)
      refine cut_ok r a (by omega) h3 fun n g1 g2 => ?_
      have c4 := le_cast g1
      have c6 := lt_cast (show n < m + 1 by omega)
      by_cases c : b ≤ n
      · have g := hn n c g2
        have := mul_mono s2 (show (0 : Rat) ≤ ((m + 1 : Nat) : Rat) - (n : Rat) by grind)
        grind
      · have g := h2 n g2
        have := mul_mono s1 (show (0 : Rat) ≤ (n : Rat) - (a : Rat) by grind)
        grind
end FL.L
set_option maxRecDepth 100000
set_option maxHeartbeats 1000000
noncomputable section
namespace FL.L
open PySem PySem.Spec PyProof.Rows L2 FL
theorem rat_nd (q : Rat) : (q.num : Rat) / (q.den : Rat) = q := by rw [← Rat.mkRat_eq_div]; exact Rat.mkRat_self q
theorem den_pos (q : Rat) : (0 : Rat) < (q.den : Rat) := by
  have := lt_cast (show 0 < q.den from Nat.pos_of_ne_zero q.den_nz)
  simpa using this
theorem num_eq (q : Rat) : (q.num : Rat) = q * (q.den : Rat) := by
  have h := rat_nd q
  have := den_pos q
  have hne : (q.den : Rat) ≠ 0 := by grind
  grind
theorem frac_lt {p q : Rat} {u v : Nat} (hu : 0 < u) (hv : 0 < v) : q / (v : Rat) < p / (u : Rat) ↔ q.num * (u : Int) * (p.den : Int) < p.num * (v : Int) * (q.den : Int) := by
  have hu' : (0 : Rat) < (u : Rat) := by have := lt_cast hu; simpa using this
  have hv' : (0 : Rat) < (v : Rat) := by have := lt_cast hv; simpa using this
  have dp := den_pos p
  have dq := den_pos q
  have e1 : (q.num * (u : Int) * (p.den : Int) < p.num * (v : Int) * (q.den : Int)) ↔ ((q.num : Rat) * (u : Rat) * (p.den : Rat) < (p.num : Rat) * (v : Rat) * (q.den : Rat)) := by
    constructor
    · intro h; exact_mod_cast h
    · intro h; exact_mod_cast h
  rw [e1, num_eq p, num_eq q]
  have hx : (q / (v : Rat)) * (v : Rat) = q := by have : (v : Rat) ≠ 0 := by grind
                                                  grind
  have hy : (p / (u : Rat)) * (u : Rat) = p := by have : (u : Rat) ≠ 0 := by grind
                                                  grind
  generalize q / (v : Rat) = x at *
  generalize p / (u : Rat) = y at *
  have pos : 0 < (v : Rat) * (u : Rat) * ((p.den : Rat) * (q.den : Rat)) := Rat.mul_pos (Rat.mul_pos hv' hu') (Rat.mul_pos dp dq)
  have l1 : q * (q.den : Rat) * (u : Rat) * (p.den : Rat) = x * ((v : Rat) * (u : Rat) * ((p.den : Rat) * (q.den : Rat))) := by rw [← hx]; grind
  have l2 : p * (p.den : Rat) * (v : Rat) * (q.den : Rat) = y * ((v : Rat) * (u : Rat) * ((p.den : Rat) * (q.den : Rat))) := by rw [← hy]; grind
  generalize hz : (v : Rat) * (u : Rat) * ((p.den : Rat) * (q.den : Rat)) = z at *
  constructor
  · intro h
    have := Rat.mul_lt_mul_of_pos_right h pos
    grind
  · intro h
    refine Rat.not_le.mp fun c => ?_
    have := Rat.mul_le_mul_of_nonneg_right c (Rat.le_of_lt pos)
    grind
abbrev pt (f : Nat → Rat) (p : Nat) : D := .tup [.int p, rD (f p)]
theorem Sm.natI {n : Nat} (h : n ≤ 100000) : Sm (n : Int) := Sm.of (by rw [Int.natAbs_natCast]; exact Nat.lt_of_le_of_lt h (Nat.lt_of_lt_of_le (show 100000 < 2 ^ 20 by decide) (two_pow_le (by decide))))
theorem R0.smn1 {q : Rat} (h : R0 q) {n : Nat} (hn : n ≤ 1000) : Sm (q.num * (n : Int)) := by
  unfold Sm
  rw [Int.natAbs_mul, Int.natAbs_natCast]
  have h1 : q.num.natAbs * n < 2 ^ 1900 * 2 ^ 1900 := Nat.mul_lt_mul'' h.1 (Nat.lt_of_le_of_lt hn (Nat.lt_of_lt_of_le (show 1000 < 2 ^ 10 by decide) (two_pow_le (by decide))))
  exact Nat.lt_of_lt_of_le h1 (by rw [← Nat.pow_add]; exact two_pow_le (by decide))
theorem R0.smd1 {q : Rat} (h : R0 q) {n : Nat} (hn : n ≤ 1000) : Sm ((q.den : Int) * (n : Int)) := by
  unfold Sm
  rw [Int.natAbs_mul, Int.natAbs_natCast, Int.natAbs_natCast]
  have h1 : q.den * n < 2 ^ 1900 * 2 ^ 1900 := Nat.mul_lt_mul'' h.2 (Nat.lt_of_le_of_lt hn (Nat.lt_of_lt_of_le (show 1000 < 2 ^ 10 by decide) (two_pow_le (by decide))))
  exact Nat.lt_of_lt_of_le h1 (by rw [← Nat.pow_add]; exact two_pow_le (by decide))
theorem is_bend_ev {f : Nat → Rat} {N : Nat} (hf : ∀ i, Bd 6 N (f i)) (hN : N ≤ 2000) {a b c : Nat} (h1 : a < b) (h2 : b < c) (hc : c ≤ 100) (t : Tape) : F_concave_is_bend [pt f a, pt f b, pt f c] t = some (.bl (bend f a b c), t) := by
  have r1 : R0 (f b - f a) := r0b (Bd.sub (by decide) (hf b) (hf a)) (by omega)
  have r2 : R0 (f c - f b) := r0b (Bd.sub (by decide) (hf c) (hf b)) (by omega)
  have s1 := subtract_ev (r0b (hf b) (by omega)) (r0b (hf a) (by omega)) t
  have s2 := subtract_ev (r0b (hf c) (by omega)) (r0b (hf b) (by omega)) t
  have fl := frac_lt (p := f b - f a) (q := f c - f b) (u := b - a) (v := c - b) (by omega) (by omega)
  rw [cast_sub' (by omega), cast_sub' (by omega)] at fl
  have e : bend f a b c = decide ((f c - f b).num * ((b - a : Nat) : Int) * ((f b - f a).den : Int) < (f b - f a).num * ((c - b : Nat) : Int) * ((f c - f b).den : Int)) := decide_eq_decide.mpr fl
  have i0 : ∀ q, oIx (rD q) (.int 0) = some (.int q.num) := fun _ => rfl
  have i1 : ∀ q, oIx (rD q) (.int 1) = some (.int q.den) := fun _ => rfl
  have p0 : ∀ i, oIx (pt f i) (.int 0) = some (.int i) := fun _ => rfl
  have p1 : ∀ i, oIx (pt f i) (.int 1) = some (rD (f i)) := fun _ => rfl
  have g1 : (c : Int) - (b : Int) = ((c - b : Nat) : Int) := by omega
  have g2 : (b : Int) - (a : Int) = ((b - a : Nat) : Int) := by omega
  have m1 := oMul_int r1.smn (Sm.natI (n := c - b) (by omega))
  have m2 := oMul_int (r1.smn1 (n := c - b) (by omega)) r2.smd
  have m3 := oMul_int r2.smn (Sm.natI (n := b - a) (by omega))
  have m4 := oMul_int (r2.smn1 (n := b - a) (by omega)) r1.smd
  refine wp_eq ?_
  simp_all! [F_concave_is_bend, m_concave_is_bend, p0, p1, s1, s2, i0, i1, pln_rD, g1, g2, m1, m2, m3, m4]
  exact e ▸ rfl
/-- a fraction that is not in lowest terms is added -/
theorem add_raw_ev {x r : Rat} (hx : R0 x) (hr : R0 r) {k n : Nat} (hn : 0 < n) (hn2 : n ≤ 1000) (hk : k ≤ 1000) (t : Tape) : F_ratios_add [rD x, .tup [.int (r.num * (k : Int)), .int ((r.den : Int) * (n : Int))]] t = some (rD (x + r * (k : Rat) / (n : Rat)), t) := by
  have i0 : ∀ q, oIx (rD q) (.int 0) = some (.int q.num) := fun _ => rfl
  have i1 : ∀ q, oIx (rD q) (.int 1) = some (.int q.den) := fun _ => rfl
  have j0 : ∀ a b, oIx (.tup [.int a, .int b]) (.int 0) = some (.int a) := fun _ _ => rfl
  have j1 : ∀ a b, oIx (.tup [.int a, .int b]) (.int 1) = some (.int b) := fun _ _ => rfl
  have h0 : x.den * (r.den * n) ≠ 0 := Nat.mul_ne_zero x.den_nz (Nat.mul_ne_zero r.den_nz (by omega))
  have hs : Sm ((x.den * (r.den * n) : Nat) : Int) := by
    unfold Sm
    rw [Int.natAbs_natCast]
    have h1 : r.den * n < 2 ^ 1900 * 2 ^ 10 := Nat.mul_lt_mul'' hr.2 (Nat.lt_of_le_of_lt hn2 (by decide))
    have h2 : x.den * (r.den * n) < 2 ^ 1900 * (2 ^ 1900 * 2 ^ 10) := Nat.mul_lt_mul'' hx.2 h1
    exact Nat.lt_of_lt_of_le h2 (by rw [← Nat.pow_add, ← Nat.pow_add]; exact two_pow_le (by decide))
  have m1 := oMul_int hx.smn (hr.smd1 hn2)
  have m2 := oMul_int (hr.smn1 hk) hx.smd
  have m3 := oMul_int hx.smd (hr.smd1 hn2)
  have mk := make_ev (x.num * ((r.den : Int) * (n : Int)) + r.num * (k : Int) * (x.den : Int)) (x.den * (r.den * n)) h0 hs t
  have ev : Rat.normalize (x.num * ((r.den : Int) * (n : Int)) + r.num * (k : Int) * (x.den : Int)) (x.den * (r.den * n)) h0 = x + r * (k : Rat) / (n : Rat) := by
    rw [norm_div]
    have e1 : ((x.num * ((r.den : Int) * (n : Int)) + r.num * (k : Int) * (x.den : Int) : Int) : Rat) = (x.num : Rat) * ((r.den : Rat) * (n : Rat)) + (r.num : Rat) * (k : Rat) * (x.den : Rat) := by push_cast; rfl
    have e2 : ((x.den * (r.den * n) : Nat) : Rat) = (x.den : Rat) * ((r.den : Rat) * (n : Rat)) := by push_cast; rfl
    rw [e1, e2, num_eq x, num_eq r]
    have d1 := den_pos x
    have d2 := den_pos r
    have d3 : (0 : Rat) < (n : Rat) := by have := lt_cast hn; simpa using this
    generalize (x.den : Rat) = A at *
    generalize (r.den : Rat) = B at *
    generalize (n : Rat) = C at *
    have hA : A ≠ 0 := by grind
    have hB : B ≠ 0 := by grind
    have hC : C ≠ 0 := by grind
    grind
  rw [ev] at mk
  rw [Int.natCast_mul, Int.natCast_mul] at mk
  refine wp_eq ?_
  simp_all! [F_ratios_add, m_ratios_add, i0, i1, j0, j1, m1, m2, m3, mk, pln_rD]
end FL.L
set_option maxRecDepth 100000
set_option maxHeartbeats 1000000
noncomputable section
namespace FL.L
open PySem PySem.Spec PyProof.Rows L2 FL
def cD (f : Nat → Rat) (C : List Nat) : List D := C.reverse.map (pt f)
section
variable {f : Nat → Rat} {C r : List Nat} {a b : Nat}
theorem cD_len : (cD f C).length = C.length := by unfold cD; simp
theorem cD_app : cD f r ++ [pt f b] = cD f (b :: r) := by unfold cD; simp
theorem cD_nil : cD f [] = [] := rfl
theorem cD_ix1 : oIx (.lst (cD f (b :: r))) (.int (-1)) = some (pt f b) := by
  rw [← cD_app]
  exact atI_last _ _
theorem cD_ix2 : oIx (.lst (cD f (b :: a :: r))) (.int (-2)) = some (pt f a) := by
  rw [← cD_app, ← cD_app]
  show atI _ _ = _
  have hl : ((cD f r ++ [pt f a]) ++ [pt f b]).length = (cD f r).length + 2 := by simp
  have e : ixN ((cD f r ++ [pt f a]) ++ [pt f b]).length (-2) = some (cD f r).length := by
    unfold ixN
    rw [hl, if_neg (by decide), if_pos (by omega)]
    congr 1
    omega
  unfold atI
  rw [e]
  show ((cD f r ++ [pt f a]) ++ [pt f b])[(cD f r).length]? = _
  simp
theorem cD_top : (cD f (b :: r))[(b :: r).length - 1]? = some (pt f b) := by
  rw [← cD_app]
  rw [show (b :: r).length - 1 = (cD f r).length by rw [cD_len]; simp]
  simp
theorem cD_drop : (cD f (b :: r)).dropLast = cD f r := by
  rw [← cD_app, List.dropLast_concat]
theorem cD_gLen : gLen [.lst (cD f C)] = some (.int C.length) := by
  rw [gLen_lst, cD_len]
end
theorem edges_len {f : Nat → Rat} {m : Nat} : ∀ (r : List Nat) (b : Nat), Edges f m (b :: r) → r.length ≤ b
  | [], _, _ => Nat.zero_le _
  | a :: r, b, h => by
    have := edges_len r a h.2.2
    have := h.1
    simp; omega
theorem cut_head {f : Nat → Rat} {m c : Nat} : ∀ (r : List Nat) (b : Nat), Edges f m (b :: r) → b < c → ∃ b' r', cut f c (b :: r) = b' :: r' ∧ b' < c ∧ Edges f m (b' :: r')
  | [], b, h, hc => ⟨b, [], rfl, hc, h⟩
  | a :: r, b, h, hc => by
    unfold cut
    by_cases z : bend f a b c = true
    · rw [if_pos z]; exact ⟨b, a :: r, rfl, hc, h⟩
    · rw [if_neg z]; exact cut_head r a h.2.2 (Nat.lt_trans h.1 hc)
abbrev hullC : BM := mAnd (mTst (mOp oGt (mCallB gLen (mCons (mVar 2) mNil)) (mC (.int 1)))) (mNot (mTst (mCall 3 0 F_concave_is_bend (mCons (mOp oIx (mVar 2) (mUn oNeg (mC (.int 2)))) (mCons (mOp oIx (mVar 2) (mUn oNeg (mC (.int 1)))) (mCons (mTup (mCons (mVar 3) (mCons (mVar 1) mNil))) mNil))))))
theorem hull_while {f : Nat → Rat} {N : Nat} (hf : ∀ i, Bd 6 N (f i)) (hN : N ≤ 2000) {m c : Nat} (hc : c ≤ 100) (r : List Nat) (b : Nat) (he : Edges f m (b :: r)) (hb : b < c) (row : Option D) (t : Tape) {K : Out → Prop}
    (k : K (.nx [row, some (rD (f c)), some (.lst (cD f (cut f c (b :: r)))), some (.int c), none, none, none, none, none, none, none] t)) :
    wp (whileN hullC (mDropX (mPop 2)) 1000 [row, some (rD (f c)), some (.lst (cD f (b :: r))), some (.int c), none, none, none, none, none, none, none] t) K := by
  have hl := edges_len r b he
  refine wp_while (fun l ρ t' => t' = t ∧ ∃ b' r', l = r'.length ∧ ρ = [row, some (rD (f c)), some (.lst (cD f (b' :: r'))), some (.int c), none, none, none, none, none, none, none] ∧ b' < c ∧ Edges f m (b' :: r') ∧ cut f c (b' :: r') = cut f c (b :: r)) r.length (by omega) ⟨rfl, b, r, rfl, rfl, hb, he, rfl⟩ (fun l ρ t' ⟨ht, b', r', hl', hρ, hb', he', hcut⟩ => ?_)
  subst ht hρ
  cases r' with
  | nil =>
    have d1 : decide ((1 : Int) < ((cD f [b']).length : Int)) = false := by rw [cD_len]; rfl
    have e : cut f c [b'] = [b'] := rfl
    rw [e] at hcut
    rw [← hcut] at k
    simp_all! [d1]
    exact k
  | cons a r' =>
    have d1 : decide ((1 : Int) < ((cD f (b' :: a :: r')).length : Int)) = true := decide_eq_true (by rw [cD_len]; simp; omega)
    have tp : (cD f (b' :: a :: r'))[(cD f (b' :: a :: r')).length - 1]? = some (pt f b') := by rw [cD_len]; exact cD_top
    have hab := he'.1
    have ib := is_bend_ev hf hN hab hb' hc t'
    cases z : bend f a b' c with
    | true =>
      have e : cut f c (b' :: a :: r') = b' :: a :: r' := by unfold cut; rw [if_pos z]
      rw [e] at hcut
      rw [← hcut] at k
      rw [z] at ib
      simp_all! [d1, cD_ix1, cD_ix2, ib]
      exact k
    | false =>
      have e : cut f c (b' :: a :: r') = cut f c (a :: r') := by
        show (if bend f a b' c then b' :: a :: r' else cut f c (a :: r')) = _
        rw [z]; rfl
      rw [e] at hcut
      rw [z] at ib
      simp_all! [d1, cD_ix1, cD_ix2, ib, y_dropX, y_pop, tp, cD_drop]
      exact ⟨r'.length, by simp at hl'; omega, a, r', rfl, rfl, by omega, he'.2.2, hcut⟩
theorem oAdd_tups {l m : List D} (h : (l ++ m).length ≤ 100000) : oAdd (.tup l) (.tup m) = some (.tup (l ++ m)) := by
  simp only [oAdd, small_of h, if_true]
/-- the edges from the first one on -/
theorem edges_rev {f : Nat → Rat} {m : Nat} : ∀ (r : List Nat) (b : Nat), Edges f m (b :: r) → (b :: r).reverse[0]? = some 0 ∧ ∀ i p q, (b :: r).reverse[i]? = some p → (b :: r).reverse[i + 1]? = some q → p < q ∧ ∀ n, n ≤ m → f n ≤ f p + sl f p q * ((n : Rat) - (p : Rat))
  | [], b, h => ⟨by have h0 : b = 0 := h
                    rw [h0]; rfl, fun i p q h1 h2 => by simp at h2⟩
  | a :: r, b, h => by
    obtain ⟨h1, h2, h3⟩ := h
    obtain ⟨i1, i2⟩ := edges_rev r a h3
    have e : (b :: a :: r).reverse = (a :: r).reverse ++ [b] := List.reverse_cons
    have hl : 0 < (a :: r).reverse.length := by simp
    refine ⟨by rw [e, List.getElem?_append_left hl]; exact i1, fun i p q g1 g2 => ?_⟩
    rw [e] at g1 g2
    by_cases c : i + 1 < (a :: r).reverse.length
    · rw [List.getElem?_append_left (by omega)] at g1
      rw [List.getElem?_append_left c] at g2
      exact i2 i p q g1 g2
    · have hi := (List.getElem?_eq_some_iff.mp g2).1
      rw [List.length_append, List.length_singleton] at hi
      have ei : i + 1 = (a :: r).reverse.length := by omega
      rw [ei, List.getElem?_append_right (Nat.le_refl _), Nat.sub_self] at g2
      rw [List.getElem?_append_left (by omega)] at g1
      have e2 : (a :: r).reverse = r.reverse ++ [a] := List.reverse_cons
      rw [e2, show i = r.reverse.length by simp at ei ⊢; omega] at g1
      simp at g1 g2
      subst g1 g2
      exact ⟨h1, h2⟩
def qAt (C : List Nat) (i : Nat) : Nat := (C.reverse[i]?).getD 0
theorem qAt_eq {C : List Nat} {i : Nat} (h : i < C.length) : C.reverse[i]? = some (qAt C i) := by
  unfold qAt
  rw [List.getElem?_eq_getElem (by simpa using h)]; rfl
theorem cD_range (f : Nat → Rat) (C : List Nat) : cD f C = (List.range C.length).map fun i => pt f (qAt C i) := by
  unfold cD
  refine List.ext_getElem? fun i => ?_
  by_cases h : i < C.length
  · rw [range_at _ h, List.getElem?_map, qAt_eq h]; rfl
  · rw [List.getElem?_eq_none (by simpa using h), List.getElem?_eq_none (by simpa using h)]
theorem edges_le {f : Nat → Rat} {m : Nat} : ∀ (r : List Nat) (b : Nat), Edges f m (b :: r) → ∀ x ∈ b :: r, x ≤ b
  | [], b, h, x, hx => by simp at hx; omega
  | a :: r, b, h, x, hx => by
    rcases List.mem_cons.mp hx with z | z
    · omega
    · have := edges_le r a h.2.2 x z
      have := h.1
      omega
theorem hull_ev {f : Nat → Rat} {N m : Nat} (hf : ∀ i, Bd 6 N (f i)) (hN : N ≤ 2000) (hm : 0 < m) (hm2 : m ≤ 31) (t : Tape) : ∃ g, F_concave_hull [rowD m fun i => some (f i)] t = some (rowD m g, t) ∧ ∀ k, k < m → SupOf (Cand f m k) (g k) := by
  suffices h : wp (F_concave_hull [rowD m fun i => some (f i)] t) fun o => ∃ g, o = (rowD m g, t) ∧ ∀ k, k < m → SupOf (Cand f m k) (g k) by
    obtain ⟨o, e, g, rfl, h⟩ := h
    exact ⟨g, e, h⟩
  have vr : ∀ q, vD (some q) = rD q := fun _ => rfl
  have hgt : decide ((40 : Int) < (m : Int)) = false := decide_eq_false (by omega)
  simp_all! [F_concave_hull, m_concave_hull, isi_row, oEq_nil_row hm (fun i => some (f i)), gLen_row, d_concave_MOST_ITEMS, hgt, items_row]
  refine wp_lcR _ (fun i => .bl true) (fun i hi => ?_) ?_
  · simp_all! [vr, is_ratio_ev]
  simp_all! [show m ≤ 100000 by omega, gAll_true, enumA_row]
  obtain ⟨A, hA⟩ : ∃ A, A = some (rowD m fun i => some (f i)) := ⟨_, rfl⟩
  refine wp_forR _ (fun i ρ t' => t' = t ∧ ∃ C x1 x3, ρ = [A, x1, some (.lst (cD f C)), x3, none, none, none, none, none, none, none] ∧ (i = 0 ∧ C = [] ∨ ∃ b r, i = b + 1 ∧ C = b :: r ∧ Edges f b (b :: r))) ⟨rfl, [], _, _, by rw [hA]; rfl, .inl ⟨rfl, rfl⟩⟩ (fun i ρ t' hi ⟨ht, C, x1, x3, hρ, hC⟩ => ?_) (fun ρ t' ⟨ht, C, x1, x3, hρ, hC⟩ => ?_)
  · subst ht hρ
    rcases hC with ⟨rfl, rfl⟩ | ⟨b, r, rfl, rfl, he⟩
    · simp_all! [cD_nil, vr]
      refine wp_while (fun l ρ t2 => t2 = t' ∧ ρ = [A, some (rD (f 0)), some (.lst []), some (.int 0), none, none, none, none, none, none, none]) 0 (by decide) ⟨rfl, rfl⟩ (fun l ρ t2 ⟨ht, hρ⟩ => ?_)
      subst ht hρ
      simp_all! []
      exact ⟨[0], _, _, rfl, .inr ⟨0, [], rfl, rfl, (rfl : (0 : Nat) = 0)⟩⟩
    · simp_all! [vr]
      refine hull_while hf hN (by omega) r b he (by omega) _ t' ?_
      obtain ⟨b', r', e1, e2, e3⟩ := cut_head r b he (Nat.lt_succ_self b)
      have hl := edges_len _ _ e3
      have ok := cut_ok r b (Nat.le_refl b) he fun n h1 h2 => by
        rw [show n = b by omega]
        grind
      rw [e1] at ok ⊢
      have hsm : (cD f (b' :: r')).length ≤ 100000 := by rw [cD_len]; simp; omega
      simp_all! [hsm]
      exact ⟨(b + 1) :: b' :: r', _, _, by rw [← cD_app (r := b' :: r') (b := b + 1)], .inr ⟨_, _, rfl, rfl, ok⟩⟩
  · subst ht hρ
    obtain ⟨b, r, rfl, rfl, he⟩ : ∃ b r, m = b + 1 ∧ C = b :: r ∧ Edges f b (b :: r) := by
      rcases hC with ⟨h0, _⟩ | h
      · omega
      · exact h
    have hz : dZipA [.lst (cD f (b :: r)), .lst (cD f (b :: r)).tail] = some ((List.range ((b :: r).length - 1)).map fun j => D.tup [pt f (qAt (b :: r) j), pt f (qAt (b :: r) (j + 1))]) := by
      rw [cD_range, zipL_tail]
    obtain ⟨er0, er⟩ := edges_rev r b he
    have hl := edges_len r b he
    have q0 : qAt (b :: r) 0 = 0 := by unfold qAt; rw [er0]; rfl
    have qL : qAt (b :: r) r.length = b := by
      unfold qAt
      rw [List.reverse_cons, show r.length = r.reverse.length by simp]
      simp
    have qb : ∀ i, i ≤ r.length → qAt (b :: r) i ≤ b := fun i hi => by
      have mem := List.mem_of_getElem? (qAt_eq (C := b :: r) (i := i) (by simp; omega))
      exact edges_le r b he _ (List.mem_reverse.mp mem)
    simp_all! [oSlL, cut1, hz]
    refine wp_forR _ (fun i ρ t2 => t2 = t' ∧ ∃ G x1 x3 x5 x6 x7 x8 x9 x10, ρ = [A, x1, some (.lst (cD f (b :: r))), x3, some (.lst (G.map vD)), x5, x6, x7, x8, x9, x10] ∧ G.length = qAt (b :: r) i ∧ ∀ j v, G[j]? = some v → SupOf (Cand f (b + 1) j) v) ⟨rfl, [], _, _, _, _, _, _, _, _, rfl, q0.symm, by simp⟩ (fun i ρ t2 hi ⟨ht, G, x1, x3, x5, x6, x7, x8, x9, x10, hρ, hG, hS⟩ => ?_) (fun ρ t2 ⟨ht, G, x1, x3, x5, x6, x7, x8, x9, x10, hρ, hG, hS⟩ => ?_)
    · subst ht hρ
      have hi2 : i + 1 ≤ r.length := by first | omega | (simp at hi; omega)
      obtain ⟨p, hp⟩ : ∃ p, p = qAt (b :: r) i := ⟨_, rfl⟩
      obtain ⟨q, hq⟩ : ∃ q, q = qAt (b :: r) (i + 1) := ⟨_, rfl⟩
      obtain ⟨hpq, hline⟩ := er i p q (by rw [hp]; exact qAt_eq (by simp; omega)) (by rw [hq]; exact qAt_eq (by simp; omega))
      have hqb : q ≤ b := by rw [hq]; exact qb _ hi2
      rw [← hp] at hG
      have s1 := subtract_ev (r0b (hf q) (by omega)) (r0b (hf p) (by omega)) t2
      have rr : R0 (f q - f p) := r0b (Bd.sub (by decide) (hf q) (hf p)) (by omega)
      have g1 : (q : Int) - (p : Int) = ((q - p : Nat) : Int) := by omega
      have hr2 := range1 (n := q - p) (by omega)
      have i0 : ∀ q, oIx (rD q) (.int 0) = some (.int q.num) := fun _ => rfl
      have i1 : ∀ q, oIx (rD q) (.int 1) = some (.int q.den) := fun _ => rfl
      have m2 := oMul_int rr.smd (Sm.natI (n := q - p) (by omega))
      simp_all! [← hp, ← hq, s1, pln_rD, g1, hr2]
      refine wp_lcR _ (fun k => rD (f p + (f q - f p) * (k : Rat) / ((q - p : Nat) : Rat))) (fun k hk => ?_) ?_
      · have m1 := oMul_int rr.smn (Sm.natI (n := k) (by omega))
        have ar := add_raw_ev (r0b (hf p) (by omega)) rr (k := k) (n := q - p) (by omega) (by omega) (by omega) t2
        simp_all! [i0, i1, g1, m1, m2, ar, pln_rD]
      · have h1 : q - p ≤ 100000 := by omega
        have h2 : G.length + (q - p) ≤ 100000 := by omega
        have h3 : sml (List.map vD G ++ List.map (fun (k : Nat) => rD (f p + (f q - f p) * (k : Rat) / ((q - p : Nat) : Rat))) (List.range (q - p))).length = true := sml_of (by simp; omega)
        simp_all! [h1, h3]
        refine ⟨G ++ (List.range (q - p)).map fun (k : Nat) => some (f p + (f q - f p) * (k : Rat) / ((q - p : Nat) : Rat)), x1, x3, some (.int p), some (rD (f p)), some (.int q), some (rD (f q)), some (rD (f q - f p)), x10, ?_, ?_, fun j v hv => ?_⟩
        · rw [List.map_append, List.map_map]; rfl
        · simp; omega
        · by_cases c : j < G.length
          · rw [List.getElem?_append_left c] at hv
            exact hS j v hv
          · rw [List.getElem?_append_right (by omega)] at hv
            obtain ⟨k, hk⟩ : ∃ k, k = j - G.length := ⟨_, rfl⟩
            rw [← hk] at hv
            have hkl : k < q - p := by have := (List.getElem?_eq_some_iff.mp hv).1; simpa using this
            rw [range_at _ hkl] at hv
            cases hv
            have hj : j = p + k := by omega
            subst hj
            have c1 := cast_sub' (Nat.le_of_lt hpq)
            have c2 := cast_pos' hpq
            have esl : (f q - f p) * (k : Rat) / ((q - p : Nat) : Rat) = sl f p q * (k : Rat) := by
              unfold sl; rw [← c1]
              have hne : ((q - p : Nat) : Rat) ≠ 0 := by grind
              grind
            refine sup_at (x := sl f p q) (fun n hn => ?_) (by omega) ?_
            · have := hline n (by omega)
              rw [esl]
              have : ((p + k : Nat) : Rat) = (p : Rat) + (k : Rat) := by grind
              grind
            · by_cases k0 : k = 0
              · subst k0
                refine .inl ?_
                rw [esl]
                congr 1
                simp; grind
              · refine .inr ⟨p, q, by omega, by omega, by omega, ?_⟩
                unfold ln
                rw [show p + k - p = k by omega]
    · subst ht hρ
      rw [qL] at hG
      have hlt : G.length + 1 ≤ 100000 := by omega
      have p1 : ∀ i, oIx (pt f i) (.int 1) = some (rD (f i)) := fun _ => rfl
      have oa := oAdd_tups (l := G.map vD) (m := [rD (f b)]) (by simp; omega)
      simp_all! [cD_ix1, p1, oa]
      refine ⟨fun j => ((G ++ [some (f b)])[j]?).getD none, ?_, fun k hk => ?_⟩
      · rw [rowD_map]
        have e : (G ++ [some (f b)]) = (List.range (b + 1)).map fun j => ((G ++ [some (f b)])[j]?).getD none := by
          refine List.ext_getElem? fun j => ?_
          by_cases z : j < b + 1
          · rw [range_at _ z]
            obtain ⟨v, hv⟩ : ∃ v, (G ++ [some (f b)])[j]? = some v := ⟨_, List.getElem?_eq_getElem (by simp; omega)⟩
            rw [hv]; rfl
          · rw [List.getElem?_eq_none (by simp; omega), List.getElem?_eq_none (by simpa using z)]
        rw [← e, List.map_append]; rfl
      · show SupOf _ (((G ++ [some (f b)])[k]?).getD none)
        by_cases z : k < G.length
        · rw [List.getElem?_append_left z, List.getElem?_eq_getElem z]
          exact hS k _ (List.getElem?_eq_getElem z)
        · have hkb : k = b := by omega
          subst hkb
          rw [← hG, List.getElem?_append_right (Nat.le_refl _), Nat.sub_self]
          show SupOf _ (some (f G.length))
          refine ⟨fun x hx => ?_, .inr (.inl rfl)⟩
          rcases hx with hx | ⟨l, h, h1, h2, h3, hx⟩
          · rw [hx]; exact vle_refl _
          · omega
/-- both are the same -/
theorem full_hull {f : Nat → Rat} {N m : Nat} (hf : ∀ i, Bd 6 N (f i)) (hN : N ≤ 2000) (hm : 0 < m) (hm2 : m ≤ 31) (t : Tape) : ∃ g, F_polys_full [rowD m fun i => some (f i)] t = some (rowD m g, t) ∧ F_concave_hull [rowD m fun i => some (f i)] t = some (rowD m g, t) := by
  obtain ⟨g, e1, h1⟩ := full_ev hf hN hm hm2 t
  obtain ⟨g', e2, h2⟩ := hull_ev hf hN hm hm2 t
  refine ⟨g, e1, ?_⟩
  rw [e2, rowD_congr (f := g') (g := g) fun k hk => (h2 k hk).uniq (h1 k hk)]
end FL.L
set_option maxRecDepth 100000
set_option maxHeartbeats 1000000
noncomputable section
namespace FL.L
open PySem PySem.Spec PyProof.Rows L2 FL
def rwL (a : Rat) (rs : List Rat) : List (Option Rat) := (List.range (rs.length + 1)).map (rf a rs)
theorem rwD_L (a : Rat) (rs : List Rat) : rwD a rs = .tup ((rwL a rs).map vD) := rowD_map _ _
theorem rwL_len (a : Rat) (rs : List Rat) : (rwL a rs).length = rs.length + 1 := by unfold rwL; simp
theorem rwL_at {a : Rat} {rs : List Rat} {i : Nat} {x : Option Rat} (h : (rwL a rs)[i]? = some x) : i ≤ rs.length ∧ x = some (a + psum rs i) := by
  have hi : i < rs.length + 1 := by have := (List.getElem?_eq_some_iff.mp h).1; rwa [rwL_len] at this
  unfold rwL at h
  rw [range_at _ hi] at h
  cases h
  exact ⟨by omega, rfl⟩
theorem rwL_get (a : Rat) (rs : List Rat) {i : Nat} (h : i ≤ rs.length) : (rwL a rs)[i]? = some (some (a + psum rs i)) := by
  unfold rwL
  rw [range_at _ (by omega)]; rfl
theorem rwL_last (a : Rat) (rs : List Rat) : ∃ q, (rwL a rs).getLast? = some (some q) := by
  refine ⟨a + psum rs rs.length, ?_⟩
  unfold rwL
  rw [List.range_succ, List.map_append, List.map_singleton, List.getLast?_concat]; rfl
theorem rwL_ne (a : Rat) (rs : List Rat) : rwL a rs ≠ [] := by
  intro h
  have := rwL_len a rs
  rw [h] at this; simp at this
theorem RB.v0L {N : Nat} {a : Rat} {rs : List Rat} (h : RB N a rs) : ∀ x ∈ rwL a rs, V0 x := fun x hx => by
  obtain ⟨i, hi⟩ := List.getElem?_of_mem hx
  rw [(rwL_at hi).2]
  exact h.v0 i
theorem product_row {N M : Nat} {a b : Rat} {rs ss : List Rat} (h : RB N a rs) (g : RB M b ss) (hd : Desc rs) (gd : Desc ss) (hl : rs.length + ss.length ≤ 20) (t : Tape) :
    F_polys_product [rwD a rs, rwD b ss] t = some (rwD (a + b) (mrg rs ss), t) := by
  obtain ⟨cs, e, hlen, hcs⟩ := product_ev (rwL a rs) (rwL b ss) t (rwL_ne _ _) (rwL_ne _ _) (by rw [rwL_len]; omega) (by rw [rwL_len]; omega) (by rw [rwL_len, rwL_len]; omega) (rwL_last _ _) (rwL_last _ _) h.v0L g.v0L fun x hx y hy => by
    obtain ⟨i, hi⟩ := List.getElem?_of_mem hx
    obtain ⟨j, hj⟩ := List.getElem?_of_mem hy
    rw [(rwL_at hi).2, (rwL_at hj).2]
    exact V0.some (r0b (Bd.add (by decide) (h.at i) (g.at j)) (by decide))
  rw [rwD_L, rwD_L, e, rwD_L]
  have ec : cs = rwL (a + b) (mrg rs ss) := by
    refine List.ext_getElem? fun n => ?_
    rw [rwL_len, rwL_len] at hlen
    by_cases hn : n < cs.length
    · have c1 := hcs n _ (List.getElem?_eq_getElem hn)
      rw [List.getElem?_eq_getElem hn, rwL_get _ _ (by rw [mrg_len]; omega)]
      refine congrArg some (c1.uniq ⟨fun x hx => ?_, .inr ?_⟩)
      · obtain ⟨k, j, p, q, _, hkj, e1, e2, e3⟩ := hx
        obtain ⟨h1, h2⟩ := rwL_at e1
        obtain ⟨h3, h4⟩ := rwL_at e2
        rw [e3, h2, h4]
        have := mrg_ge hd gd k j h1 h3
        rw [hkj] at this
        show a + psum rs k + (b + psum ss j) ≤ a + b + psum (mrg rs ss) n
        grind
      · obtain ⟨k, j, h1, h2, h3, h4⟩ := mrg_at rs ss n (by omega)
        refine ⟨k, j, _, _, trivial, h1, rwL_get a rs h2, rwL_get b ss h3, ?_⟩
        rw [h4]
        show some (a + b + (psum rs k + psum ss j)) = some (a + psum rs k + (b + psum ss j))
        congr 1; grind
    · rw [List.getElem?_eq_none (by omega), List.getElem?_eq_none (by rw [rwL_len, mrg_len]; omega)]
  rw [ec]
theorem full_rw {f : Nat → Rat} {m : Nat} (hf : ∀ i, Bd 6 6 (f i)) (hm : 0 < m) (hm2 : m ≤ 31) (t : Tape) : ∃ g, F_polys_full [rowD m fun i => some (f i)] t = some (rowD m g, t) ∧ F_concave_hull [rowD m fun i => some (f i)] t = some (rowD m g, t) := full_hull hf (by decide) hm hm2 t
theorem is_full_row {N : Nat} {a : Rat} {rs : List Rat} (h : RB N a rs) (hd : Desc rs) (t : Tape) : F_polys_is_full [rwD a rs] t = some (.bl true, t) := by
  have ff := full_row h hd t
  have er : oEq (rwD a rs) (rwD a rs) = some (.bl true) := by
    unfold oEq
    rw [show shp dep (rwD a rs) = true from shp_row 6 _ _, show deq dep (rwD a rs) (rwD a rs) = true from (deq_row 6 _ _ _).trans (decide_eq_true fun _ _ => rfl)]
    rfl
  refine wp_eq ?_
  simp_all! [F_polys_is_full, m_polys_is_full, ff, pln_row 6, er]
/-! ### runs of equals -/
def stepR (F : List (Rat × Nat)) (x : Rat) : List (Rat × Nat) := match F.getLast? with
  | some p => if p.1 = x then F.dropLast ++ [(p.1, p.2 + 1)] else F ++ [(x, 1)]
  | none => [(x, 1)]
def unrun (R : List (Rat × Nat)) : List Rat := R.flatMap fun p => List.replicate p.2 p.1
theorem stepR_eq (F : List (Rat × Nat)) (v : Rat) (n : Nat) : stepR (F ++ [(v, n)]) v = F ++ [(v, n + 1)] := by
  unfold stepR
  rw [List.getLast?_concat]
  simp
theorem stepR_ne {F : List (Rat × Nat)} {x : Rat} (h : ∀ p ∈ F, p.1 ≠ x) : stepR F x = F ++ [(x, 1)] := by
  unfold stepR
  cases e : F.getLast? with
  | none =>
    have : F = [] := by simpa using e
    rw [this]; rfl
  | some p =>
    have := h p (List.mem_of_getLast? e)
    simp [this]
theorem rep_step (F : List (Rat × Nat)) (v : Rat) : ∀ n k : Nat, (List.replicate n v).foldl stepR (F ++ [(v, k)]) = F ++ [(v, k + n)]
  | 0, k => rfl
  | n + 1, k => by
    rw [List.replicate_succ, List.foldl_cons, stepR_eq, rep_step F v n (k + 1)]
    congr 3; omega
theorem runs_fold : ∀ (R F : List (Rat × Nat)), (F ++ R).Pairwise (fun p q => p.1 ≠ q.1) → (∀ p ∈ R, 0 < p.2) → (unrun R).foldl stepR F = F ++ R
  | [], F, _, _ => by simp [unrun]
  | (v, n) :: R, F, hp, hc => by
    have h0 := hc (v, n) List.mem_cons_self
    obtain ⟨n, rfl⟩ : ∃ k, n = k + 1 := ⟨n - 1, by simp at h0; omega⟩
    have hF : ∀ p ∈ F, p.1 ≠ v := fun p hpF => (List.pairwise_append.mp hp).2.2 p hpF (v, n + 1) List.mem_cons_self
    show (List.replicate (n + 1) v ++ unrun R).foldl stepR F = _
    rw [List.foldl_append, List.replicate_succ, List.foldl_cons, stepR_ne hF, rep_step]
    have e : F ++ (v, n + 1) :: R = (F ++ [(v, n + 1)]) ++ R := by simp
    rw [show 1 + n = n + 1 by omega, runs_fold R _ (by rw [← e]; exact hp) fun p hp => hc p (List.mem_cons_of_mem _ hp), e]
theorem runs_ex : ∀ (l : List Rat), l.Pairwise (fun a b => a ≤ b) → ∃ R : List (Rat × Nat), R.Pairwise (fun p q => p.1 < q.1) ∧ (∀ p ∈ R, 0 < p.2) ∧ unrun R = l
  | [], _ => ⟨[], .nil, by simp, rfl⟩
  | x :: l, h => by
    obtain ⟨h1, h2⟩ := List.pairwise_cons.mp h
    obtain ⟨R, r1, r2, r3⟩ := runs_ex l h2
    cases R with
    | nil => exact ⟨[(x, 1)], by simp, by simp, by rw [← r3]; rfl⟩
    | cons p R =>
      obtain ⟨v, n⟩ := p
      have hn := r2 (v, n) List.mem_cons_self
      obtain ⟨n, rfl⟩ : ∃ k, n = k + 1 := ⟨n - 1, by simp at hn; omega⟩
      have hv : v ∈ l := by rw [← r3]; simp [unrun]
      have hxv := h1 v hv
      have rp := List.pairwise_cons.mp r1
      by_cases c : x = v
      · subst c
        refine ⟨(x, n + 2) :: R, List.pairwise_cons.mpr ⟨rp.1, rp.2⟩, fun p hp => ?_, ?_⟩
        · rcases List.mem_cons.mp hp with z | z
          · rw [z]; simp
          · exact r2 p (List.mem_cons_of_mem _ z)
        · rw [← r3]
          show List.replicate (n + 1 + 1) x ++ unrun R = x :: (List.replicate (n + 1) x ++ unrun R)
          rw [List.replicate_succ]; rfl
      · have hlt : x < v := by grind
        refine ⟨(x, 1) :: (v, n + 1) :: R, List.pairwise_cons.mpr ⟨fun p hp => ?_, r1⟩, fun p hp => ?_, ?_⟩
        · rcases List.mem_cons.mp hp with z | z
          · rw [z]; exact hlt
          · exact Std.lt_trans hlt (rp.1 p z)
        · rcases List.mem_cons.mp hp with z | z
          · rw [z]; simp
          · exact r2 p z
        · rw [← r3]; rfl
theorem unrun_rev (R : List (Rat × Nat)) : unrun R.reverse = (unrun R).reverse := by
  induction R with
  | nil => rfl
  | cons p R ih =>
    rw [List.reverse_cons]
    show List.flatMap _ (R.reverse ++ [p]) = (List.replicate p.2 p.1 ++ unrun R).reverse
    rw [List.flatMap_append, List.reverse_append, List.reverse_replicate]
    show unrun R.reverse ++ _ = _
    rw [ih]; simp
end FL.L
set_option maxRecDepth 100000
set_option maxHeartbeats 1000000
noncomputable section
namespace FL.L
open PySem PySem.Spec PyProof.Rows L2 FL
abbrev pD (p : Rat × Nat) : D := .tup [rD p.1, .int p.2]
theorem law_minus_ev {a b : Rat} (ha : R0 a) (hb : R0 b) (t : Tape) : F_law_minus [rD a, rD b] t = some (rD (a - b), t) := by
  have hs := smd2 ha hb
  rw [← Int.natCast_mul] at hs
  simp! [F_law_minus, m_law_minus, rD, oMul_int ha.smn hb.smd, oMul_int hb.smn ha.smd, oMul_int ha.smd hb.smd]
  rw [← Int.natCast_mul, law_frac_ev _ _ (Nat.mul_ne_zero a.den_nz b.den_nz) hs, ← Rat.sub_def]
  simp! [rD]
theorem law_times_ev {a : Rat} (ha : R0 a) {n : Int} (hn : n.natAbs ≤ 1000) (t : Tape) : F_law_times [rD a, .int n] t = some (rD (a * (n : Rat)), t) := by
  have sn : Sm n := Sm.of (Nat.lt_of_le_of_lt hn (Nat.lt_of_lt_of_le (show 1000 < 2 ^ 10 by decide) (two_pow_le (by decide))))
  have e : Rat.normalize (a.num * n) a.den a.den_nz = a * (n : Rat) := by
    rw [norm_div]
    have e1 : ((a.num * n : Int) : Rat) = (a.num : Rat) * (n : Rat) := by push_cast; rfl
    rw [e1, num_eq a]
    have := den_pos a
    have hne : (a.den : Rat) ≠ 0 := by grind
    grind
  have lf := law_frac_ev (a.num * n) a.den a.den_nz ha.smd t
  rw [e] at lf
  simp! [F_law_times, m_law_times, rD, oMul_int ha.smn sn]
  rw [lf]
  simp! [rD]
theorem pl_last (F : List (Rat × Nat)) (v : Rat) (n : Nat) : oIx (.lst ((F ++ [(v, n)]).map pD)) (.int (-1)) = some (pD (v, n)) := by
  show atI _ _ = _
  rw [List.map_append]
  exact atI_last _ _
theorem pl_ixN (F : List (Rat × Nat)) (p : Rat × Nat) : ixN (F ++ [p]).length (-1) = some F.length := by
  unfold ixN
  rw [if_neg (by decide), if_pos (by simp; omega)]
  congr 1
  simp; omega
theorem pl_set (F : List (Rat × Nat)) (p q : Rat × Nat) : ((F ++ [p]).map pD).set F.length (pD q) = (F ++ [q]).map pD := by
  rw [List.map_append, List.map_append]
  rw [show F.length = (F.map pD).length by simp, List.set_append_right _ _ (Nat.le_refl _), Nat.sub_self]
  rfl
theorem snoc_cases {α : Type} (l : List α) : l = [] ∨ ∃ m x, l = m ++ [x] := by
  cases h : l with
  | nil => exact .inl rfl
  | cons a r => exact .inr ⟨(a :: r).dropLast, (a :: r).getLast (by simp), (List.dropLast_concat_getLast _).symm⟩
theorem stepR_ne1 {F : List (Rat × Nat)} {v x : Rat} {n : Nat} (h : v ≠ x) : stepR (F ++ [(v, n)]) x = (F ++ [(v, n)]) ++ [(x, 1)] := by
  unfold stepR
  rw [List.getLast?_concat]
  simp [h]
theorem stepR_len (F : List (Rat × Nat)) (x : Rat) : (stepR F x).length ≤ F.length + 1 := by
  rcases snoc_cases F with rfl | ⟨m, ⟨v, n⟩, rfl⟩
  · simp [stepR]
  · by_cases c : v = x
    · subst c; rw [stepR_eq]; simp
    · rw [stepR_ne1 c]; simp
def negs (rs : List Rat) : List Rat := rs.map fun x => -x
def grp (l : List Rat) : List (Rat × Nat) := l.foldl stepR []
theorem law_corners_ev {N : Nat} {a : Rat} {rs : List Rat} (h : RB N a rs) (t : Tape) : F_law_corners [rwD a rs] t = some (.tup ((grp (negs rs)).map pD), t) := by
  have hl := h.l
  have vr : ∀ q, vD (some q) = rD q := fun _ => rfl
  refine wp_eq ?_
  simp_all! [F_law_corners, m_law_corners, sl1_row, zip_tail]
  obtain ⟨A, hA⟩ : ∃ A, A = some (rwD a rs) := ⟨_, rfl⟩
  refine wp_forR _ (fun i ρ t' => t' = t ∧ ∃ F x2 x3 x4, ρ = [A, some (.lst (F.map pD)), x2, x3, x4] ∧ F = grp ((negs rs).take i) ∧ F.length ≤ i) ⟨rfl, [], _, _, _, by rw [hA]; rfl, rfl, Nat.le_refl _⟩ (fun i ρ t' hi ⟨ht, F, x2, x3, x4, hρ, hF, hFl⟩ => ?_) (fun ρ t' ⟨ht, F, x2, x3, x4, hρ, hF, hFl⟩ => ?_)
  · subst ht hρ
    have hx : (negs rs)[i]? = some (-(rgt rs i)) := by unfold negs; rw [List.getElem?_map, rgt_eq hi]; rfl
    have hF' : grp ((negs rs).take (i + 1)) = stepR F (-(rgt rs i)) := by
      rw [hF]; unfold grp; rw [take_succ hx, List.foldl_append]; rfl
    have mi := law_minus_ev (r0b (h.at i) (by decide)) (r0b (h.at (i + 1)) (by decide)) t'
    have e : a + psum rs i - (a + psum rs (i + 1)) = -(rgt rs i) := by
      rw [psum_succ (rgt_eq hi)]; grind
    rw [e] at mi
    have sl := stepR_len F (-(rgt rs i))
    rcases snoc_cases F with rfl | ⟨m, ⟨v, n⟩, rfl⟩
    · have g : [(-(rgt rs i), 1)] = grp (List.take (i + 1) (negs rs)) := hF'.symm
      clear hF' hF
      simp_all! [rf, vr, mi, pln_rD]
      exact ⟨[(-(rgt rs i), 1)], _, _, _, rfl, g, by simp⟩
    · have i0 : oIx (pD (v, n)) (.int 0) = some (rD v) := rfl
      have i1 : oIx (pD (v, n)) (.int 1) = some (.int n) := rfl
      have dl : decide ((0 : Int) < ((m ++ [(v, n)]).length : Int)) = true := decide_eq_true (by simp <;> omega)
      have sm : sml (m ++ [(v, n)]).length = true := sml_of (by omega)
      by_cases c : v = -(rgt rs i)
      · have ee := oEq_rD v (-(rgt rs i))
        rw [decide_eq_true c] at ee
        have st := stepR_eq m v n
        have gs : ((m ++ [(v, n)]).map pD).set m.length (D.tup [rD (-(rgt rs i)), .int ((n : Int) + 1)]) = (m ++ [(v, n + 1)]).map pD := by rw [← pl_set m (v, n) (v, n + 1), ← c]; rfl
        have gl : (m ++ [(v, n + 1)]).length ≤ i + 1 := by simp at hFl ⊢; omega
        have g : m ++ [(v, n + 1)] = grp (List.take (i + 1) (negs rs)) := by rw [hF', ← c, st]
        clear hF' hF hx
        simp_all! [rf, vr, mi, pln_rD, dl, pl_last, i0, i1, ee, pl_ixN]
        exact ⟨m ++ [(v, n + 1)], _, _, _, congrArg (fun z => [A, some (D.lst z), _, _, _]) gs, g, gl⟩
      · have ee := oEq_rD v (-(rgt rs i))
        rw [decide_eq_false c] at ee
        have st := stepR_ne1 (F := m) (n := n) c
        have g : (m ++ [(v, n)]) ++ [(-(rgt rs i), 1)] = grp (List.take (i + 1) (negs rs)) := by rw [hF', st]
        clear hF' hF hx
        have gl : ((m ++ [(v, n)]) ++ [(-(rgt rs i), 1)]).length ≤ i + 1 := by simp at hFl ⊢; omega
        have gs : (m ++ [(v, n)]).map pD ++ [D.tup [rD (-(rgt rs i)), .int 1]] = ((m ++ [(v, n)]) ++ [(-(rgt rs i), 1)]).map pD := by rw [List.map_append (l₁ := m ++ [(v, n)])]; rfl
        simp_all! [rf, vr, mi, pln_rD, dl, pl_last, i0, i1, ee, sm]
        exact ⟨(m ++ [(v, n)]) ++ [(-(rgt rs i), 1)], _, _, _, congrArg (fun z => [A, some (D.lst z), _, _, _]) gs, g, gl⟩
  · subst ht hρ
    rw [show rs.length = (negs rs).length by unfold negs; simp, List.take_length] at hF
    simp_all! []
    rw [hF]
end FL.L
set_option maxRecDepth 100000
set_option maxHeartbeats 1000000
noncomputable section
namespace FL.L
open PySem PySem.Spec PyProof.Rows L2 FL
theorem shp_pl (l : List (Rat × Nat)) : shp 9 (.lst (l.map pD)) = true := by
  show List.all _ _ = true
  rw [List.all_eq_true]
  intro d hd
  obtain ⟨a, _, rfl⟩ := List.mem_map.mp hd
  rfl
theorem pln_pl (l : List (Rat × Nat)) : ((l.map pD).all fun x => pln 9 x) = true := by
  rw [List.all_eq_true]
  intro d hd
  obtain ⟨a, _, rfl⟩ := List.mem_map.mp hd
  rfl
theorem pne_nil (l : List (Rat × Nat)) : oNe (.lst (l.map pD)) (.lst []) = some (.bl (!l.isEmpty)) := by
  unfold oNe
  rw [shp_pl]
  cases l <;> rfl
theorem cut_none0 {α : Type} (l : List α) : cutL l none (some 0) = [] := by
  rw [show (0 : Int) = ((0 : Nat) : Int) from rfl, cut_take]; rfl
theorem cut_0none {α : Type} (l : List α) : cutL l (some 0) none = l := by
  unfold cutL
  rw [show (0 : Int) = ((0 : Nat) : Int) from rfl, HT.sIx_nat, show HT.sIx l.length l.length none = l.length from rfl]
  simp
theorem oCat_ev {l m : List D} (h : (l ++ m).length ≤ 100000) : oCat (.lst l) (.lst m) = some (.lst (l ++ m)) := by
  simp only [oCat, small_of h, if_true]
/-- pairs whose places fall are turned round -/
theorem sorted_pairs_ev {Q : List (Rat × Nat)} (hQ : Q.Pairwise (fun p q => q.1 < p.1)) (hl : Q.length ≤ 30) (hv : ∀ p ∈ Q, R0 p.1) (t : Tape) : F_polys_sorted_pairs [.lst (Q.map pD)] t = some (.lst (Q.reverse.map pD), t) := by
  have vr : ∀ q, rD q = vD (some q) := fun _ => rfl
  refine wp_eq ?_
  simp_all! [F_polys_sorted_pairs, m_polys_sorted_pairs]
  obtain ⟨A, hA⟩ : ∃ A, A = some (D.lst (Q.map pD)) := ⟨_, rfl⟩
  refine wp_forM Q pD (fun i ρ t' => t' = t ∧ ∃ F x2 x3 x4, ρ = [A, some (.lst (F.map pD)), x2, x3, x4] ∧ F = (Q.take i).reverse) ⟨rfl, [], _, _, _, by rw [hA]; rfl, rfl⟩ (fun i p ρ t' hp ⟨ht, F, x2, x3, x4, hρ, hF⟩ => ?_) (fun ρ t' ⟨ht, F, x2, x3, x4, hρ, hF⟩ => ?_)
  · subst ht hρ
    have hF' : (Q.take (i + 1)).reverse = p :: F := by rw [take_succ hp, List.reverse_append, hF]; rfl
    have hi : i < Q.length := (List.getElem?_eq_some_iff.mp hp).1
    have hFl : F.length ≤ 30 := by rw [hF]; simp; omega
    have hlt : ∀ q ∈ F, p.1 < q.1 := fun q hq => by
      rw [hF] at hq
      have hq' := List.mem_reverse.mp hq
      obtain ⟨j, hj⟩ := List.getElem?_of_mem hq'
      have hj2 : j < i := by have := (List.getElem?_eq_some_iff.mp hj).1; simp at this; omega
      rw [List.getElem?_take_of_lt hj2] at hj
      obtain ⟨hj3, ej⟩ := List.getElem?_eq_some_iff.mp hj
      obtain ⟨hi3, ei⟩ := List.getElem?_eq_some_iff.mp hp
      have := List.pairwise_iff_getElem.mp hQ j i hj3 hi3 hj2
      rw [ej, ei] at this; exact this
    have hvF : ∀ q ∈ F, R0 q.1 := fun q hq => hv q (by rw [hF] at hq; exact List.mem_of_mem_take (List.mem_reverse.mp hq))
    have hvp : R0 p.1 := hv p (List.mem_of_getElem? hp)
    have i0 : ∀ q : Rat × Nat, oIx (pD q) (.int 0) = some (rD q.1) := fun _ => rfl
    clear hF
    simp_all! []
    refine wp_lcF F pD pD (fun _ => false) (fun q hq => ?_) ?_
    · have il := is_less_ev (V0.some (hvF q hq)) (V0.some hvp) t'
      rw [show vless (some q.1) (some p.1) = false from vless_false.mpr (Rat.le_of_lt (hlt q hq)), ← vr, ← vr] at il
      simp_all! [i0, il, pln_rD]
      intro z; exact z.elim
    · have e : (F.filter fun _ => false) = [] := by simp
      rw [e]
      have g0 : gLen [.lst []] = some (.int 0) := rfl
      have c1 : oCat (.lst []) (.lst [pD p]) = some (.lst [pD p]) := oCat_ev (by simp)
      have c2 : oCat (.lst [pD p]) (.lst (F.map pD)) = some (.lst ((p :: F).map pD)) := oCat_ev (l := [pD p]) (by simp; omega)
      have gg : p :: F = (Q.take (i + 1)).reverse := hF'.symm
      clear hF'
      simp_all! [g0, oSlL, cut_none0, cut_0none, c1, c2]
      exact ⟨p :: F, _, _, _, rfl, gg⟩
  · subst ht hρ
    rw [List.take_length] at hF
    simp_all! []
    rw [hF]
theorem runs_of {l : List Rat} (h : l.Pairwise (fun a b => a ≤ b)) : (grp l).Pairwise (fun p q => p.1 < q.1) ∧ (∀ p ∈ grp l, 0 < p.2) ∧ unrun (grp l) = l ∧ grp l.reverse = (grp l).reverse := by
  obtain ⟨R, r1, r2, r3⟩ := runs_ex l h
  have e : grp l = R := by
    unfold grp
    rw [← r3, runs_fold R [] (r1.imp fun h => by grind) r2]; rfl
  rw [e]
  refine ⟨r1, r2, r3, ?_⟩
  unfold grp
  rw [← r3, ← unrun_rev, runs_fold R.reverse [] (by
    show List.Pairwise _ R.reverse
    rw [List.pairwise_reverse]
    exact r1.imp fun h => by grind) fun p hp => r2 p (List.mem_reverse.mp hp)]
  rfl
theorem negs_asc {rs : List Rat} (h : Desc rs) : (negs rs).Pairwise (fun a b => a ≤ b) := by
  unfold negs
  rw [List.pairwise_map]
  exact h.imp fun h => by grind
theorem unrun_mem {R : List (Rat × Nat)} (hc : ∀ p ∈ R, 0 < p.2) : ∀ p ∈ R, p.1 ∈ unrun R := fun p hp => by
  unfold unrun
  refine List.mem_flatMap.mpr ⟨p, hp, ?_⟩
  have := hc p hp
  exact List.mem_replicate.mpr ⟨by omega, rfl⟩
theorem grp_len (l : List Rat) : (grp l).length ≤ l.length := by
  have : ∀ (l : List Rat) (F : List (Rat × Nat)), (l.foldl stepR F).length ≤ F.length + l.length := fun l => by
    induction l with
    | nil => intro F; simp
    | cons x l ih =>
      intro F
      have h1 := ih (stepR F x)
      have h2 := stepR_len F x
      simp only [List.foldl_cons, List.length_cons]
      omega
  have := this l []
  simpa [grp] using this
theorem corners_ev {N : Nat} {a : Rat} {rs : List Rat} (h : RB N a rs) (hd : Desc rs) (t : Tape) : F_polys_corners [rwD a rs] t = some (.tup ((grp (negs rs)).map pD), t) := by
  have hl := h.l
  have vr : ∀ q, vD (some q) = rD q := fun _ => rfl
  have ff := full_row h hd t
  have isn : ∀ q, oIsNot (rD q) .non = some (.bl true) := fun _ => rfl
  refine wp_eq ?_
  simp_all! [F_polys_corners, m_polys_corners, oEq_nil_row (Nat.succ_pos rs.length) (rf a rs), ff, pln_row 6, enumA_row]
  refine wp_lcR _ (fun i => .int i) (fun i hi => ?_) ?_
  · simp_all! [rf, vr, isn]
  have z0 : oIx (.lst ((List.range (rs.length + 1)).map fun (i : Nat) => D.int i)) (.int 0) = some (.int 0) := oIx_lst (by omega) (by rw [show (0 : Int).toNat = 0 from rfl, range_at _ (Nat.succ_pos _)]; rfl)
  have dr := dRangeD_ev (i := rs.length) (j := 1) (by omega) (by omega)
  rw [show ((1 : Nat) : Int) - 1 = 0 from rfl, Nat.add_sub_cancel] at dr
  have g1 : ((rs.length + 1 : Nat) : Int) - 1 = (rs.length : Int) := by omega
  simp_all! [show rs.length + 1 ≤ 100000 by omega, z0, gLen_row, g1, dr]
  obtain ⟨A, hA⟩ : ∃ A, A = rwD a rs := ⟨_, rfl⟩
  obtain ⟨L, hL⟩ : ∃ L, L = (negs rs).reverse := ⟨_, rfl⟩
  have hLl : L.length = rs.length := by rw [hL]; unfold negs; simp
  obtain ⟨q1, q2, q3, q4⟩ := runs_of (negs_asc hd)
  refine wp_forR _ (fun i ρ t' => t' = t ∧ ∃ F x2 x5, ρ = [some A, some A, x2, some (.int 0), some (.lst (F.map pD)), x5, none] ∧ F = grp (L.take i) ∧ F.length ≤ i) ⟨rfl, [], _, _, by rw [hA]; rfl, rfl, Nat.le_refl _⟩ (fun i ρ t' hi ⟨ht, F, x2, x5, hρ, hF, hFl⟩ => ?_) (fun ρ t' ⟨ht, F, x2, x5, hρ, hF, hFl⟩ => ?_)
  · subst ht hρ
    obtain ⟨k, hk⟩ : ∃ k, k = rs.length - i - 1 := ⟨_, rfl⟩
    have hkl : k < rs.length := by omega
    have hx : L[i]? = some (-(rgt rs k)) := by
      rw [hL, List.getElem?_reverse (by unfold negs; simp; omega)]
      rw [show (negs rs).length - 1 - i = k by unfold negs; simp; omega]
      unfold negs; rw [List.getElem?_map, rgt_eq hkl]; rfl
    have hF' : grp (L.take (i + 1)) = stepR F (-(rgt rs k)) := by
      rw [hF]; unfold grp; rw [take_succ hx, List.foldl_append]; rfl
    have mi := subtract_ev (r0b (h.at k) (by decide)) (r0b (h.at (k + 1)) (by decide)) t'
    have e : a + psum rs k - (a + psum rs (k + 1)) = -(rgt rs k) := by
      rw [psum_succ (rgt_eq hkl)]; grind
    rw [e] at mi
    have k1 : (rs.length : Int) - (i : Int) = ((k + 1 : Nat) : Int) := by omega
    have k2 : ((k + 1 : Nat) : Int) - 1 = (k : Int) := by omega
    have x1 : oIx A (.int ((k + 1 : Nat) : Int)) = some (rD (a + psum rs (k + 1))) := by rw [hA]; exact ix_row (m := rs.length + 1) (rf a rs) (show k + 1 < rs.length + 1 by omega)
    have x0 : oIx A (.int (k : Int)) = some (rD (a + psum rs k)) := by rw [hA]; exact ix_row (m := rs.length + 1) (rf a rs) (show k < rs.length + 1 by omega)
    rcases snoc_cases F with rfl | ⟨m, ⟨v, n⟩, rfl⟩
    · have g : [(-(rgt rs k), 1)] = grp (List.take (i + 1) L) := hF'.symm
      clear hF' hF hx hk hA
      simp_all! [k1, k2, x0, x1, mi, pln_rD, ne_n]

      exact ⟨[(-(rgt rs k), 1)], _, _, rfl, g, by simp⟩
    · have i0 : oIx (pD (v, n)) (.int 0) = some (rD v) := rfl
      have i1 : oIx (pD (v, n)) (.int 1) = some (.int n) := rfl
      have nn : oNe (.lst ((m ++ [(v, n)]).map pD)) (.lst []) = some (.bl true) := by rw [pne_nil]; cases m <;> rfl
      have sm : sml (m ++ [(v, n)]).length = true := sml_of (by omega)
      by_cases c : v = -(rgt rs k)
      · have ee := oEq_rD v (-(rgt rs k))
        rw [decide_eq_true c] at ee
        have st := stepR_eq m v n
        have gs : ((m ++ [(v, n)]).map pD).set m.length (D.tup [rD (-(rgt rs k)), .int ((n : Int) + 1)]) = (m ++ [(v, n + 1)]).map pD := by rw [← pl_set m (v, n) (v, n + 1), ← c]; rfl
        have gl : (m ++ [(v, n + 1)]).length ≤ i + 1 := by simp at hFl ⊢; omega
        have g : m ++ [(v, n + 1)] = grp (List.take (i + 1) L) := by rw [hF', ← c, st]
        clear hF' hF hx hk hA
        simp_all! [k1, k2, x0, x1, mi, pln_rD, nn, pl_last, i0, i1, ee, pl_ixN]
        exact ⟨m ++ [(v, n + 1)], _, _, congrArg (fun z => [some A, some A, _, _, some (D.lst z), _, none]) gs, g, gl⟩
      · have ee := oEq_rD v (-(rgt rs k))
        rw [decide_eq_false c] at ee
        have st := stepR_ne1 (F := m) (n := n) c
        have gl : ((m ++ [(v, n)]) ++ [(-(rgt rs k), 1)]).length ≤ i + 1 := by simp at hFl ⊢; omega
        have gs : (m ++ [(v, n)]).map pD ++ [D.tup [rD (-(rgt rs k)), .int 1]] = ((m ++ [(v, n)]) ++ [(-(rgt rs k), 1)]).map pD := by rw [List.map_append (l₁ := m ++ [(v, n)])]; rfl
        have g : (m ++ [(v, n)]) ++ [(-(rgt rs k), 1)] = grp (List.take (i + 1) L) := by rw [hF', st]
        clear hF' hF hx hk hA
        simp_all! [k1, k2, x0, x1, mi, pln_rD, nn, pl_last, i0, i1, ee, sm]
        exact ⟨(m ++ [(v, n)]) ++ [(-(rgt rs k), 1)], _, _, congrArg (fun z => [some A, some A, _, _, some (D.lst z), _, none]) gs, g, gl⟩
  · subst ht hρ
    rw [← hLl, List.take_length, hL, q4] at hF
    have gle := grp_len (negs rs)
    have nl : (negs rs).length = rs.length := by unfold negs; simp
    have sp := sorted_pairs_ev (Q := (grp (negs rs)).reverse) (by rw [List.pairwise_reverse]; exact q1) (by rw [List.length_reverse]; omega) (fun p hp => by
      have hm := unrun_mem q2 p (List.mem_reverse.mp hp)
      rw [q3] at hm
      obtain ⟨x, hx, e⟩ := List.mem_map.mp hm
      rw [← e]
      exact r0b (Bd.neg (h.r x hx)) (by decide)) t'
    rw [List.reverse_reverse] at sp
    subst hF
    simp_all! [sp, pln_pl]
end FL.L
set_option maxRecDepth 100000
set_option maxHeartbeats 1000000
noncomputable section
namespace FL.L
open PySem PySem.Spec PyProof.Rows L2 FL
theorem mrg_snoc {l : List Rat} {d : Rat} (h : Desc (l ++ [d])) : mrg l [d] = l ++ [d] := by
  have hl : Desc l := (List.pairwise_append.mp h).1
  exact desc_unique (mrg_desc hl (by simp)) h (mrg_perm l [d])
theorem unrun_app (R S : List (Rat × Nat)) : unrun (R ++ S) = unrun R ++ unrun S := by unfold unrun; rw [List.flatMap_append]
theorem unrun_at {R : List (Rat × Nat)} {i c : Nat} {p : Rat × Nat} (hp : R[i]? = some p) (hc : c < p.2) : (unrun R)[(unrun (R.take i)).length + c]? = some p.1 := by
  obtain ⟨hi, e⟩ := List.getElem?_eq_some_iff.mp hp
  have e2 : R = R.take i ++ (p :: R.drop (i + 1)) := by
    rw [← e, ← List.drop_eq_getElem_cons hi, List.take_append_drop]
  have e3 : unrun R = unrun (R.take i) ++ (List.replicate p.2 p.1 ++ unrun (R.drop (i + 1))) := by
    calc unrun R = unrun (R.take i ++ (p :: R.drop (i + 1))) := by rw [← e2]
      _ = _ := unrun_app _ _
  rw [e3, List.getElem?_append_right (by omega), Nat.add_sub_cancel_left, List.getElem?_append_left (by simpa using hc), List.getElem?_replicate, if_pos hc]
theorem unrun_succ {R : List (Rat × Nat)} {i : Nat} {p : Rat × Nat} (hp : R[i]? = some p) : (unrun (R.take (i + 1))).length = (unrun (R.take i)).length + p.2 := by
  rw [take_succ hp, unrun_app]
  simp [unrun]
theorem two_row (d : Rat) : D.tup [rD (-d), d_ratios_ZERO] = rwD (-d) [d] := by
  show D.tup [rD (-d), vD (some 0)] = D.tup [rD (-d + psum [d] 0), rD (-d + psum [d] 1)]
  rw [psum_zero, show psum [d] 1 = d + psum [] 0 from rfl, psum_zero, show -d + 0 = -d by grind, show -d + (d + 0) = 0 by grind]; rfl
theorem from_corners_ev {N : Nat} {a : Rat} {rs : List Rat} (h : RB N a rs) (hd : Desc rs) (hN : N ≤ 100) (hl : rs.length ≤ 10) (t : Tape) : F_polys_from_corners [rD (a + psum rs rs.length), .tup ((grp (negs rs)).map pD)] t = some (rwD a rs, t) := by
  obtain ⟨q1, q2, q3, q4⟩ := runs_of (negs_asc hd)
  obtain ⟨R, hR⟩ : ∃ R, R = grp (negs rs) := ⟨_, rfl⟩
  rw [← hR] at q1 q2 q3 q4 ⊢
  have nl : (negs rs).length = rs.length := by unfold negs; simp
  obtain ⟨lead, hlead⟩ : ∃ lead, lead = a + psum rs rs.length := ⟨_, rfl⟩
  have hb : ∀ q, q ≤ rs.length → RB (N + 120) (lead - psum rs q) (rs.take q) := fun q hq => by
    have b1 := psum_bd (d := 6) (by decide) h.r rs.length
    have b2 := psum_bd (d := 6) (by decide) h.r q
    refine ⟨?_, fun x hx => h.r x (List.mem_of_mem_take hx), by simp; omega, by omega⟩
    rw [hlead]
    exact (Bd.sub (by decide) (Bd.add (by decide) h.a b1) b2).mono (by omega)
  rw [← hlead]
  obtain ⟨A, hA⟩ : ∃ A, A = some (rD lead) := ⟨_, rfl⟩
  obtain ⟨P, hP⟩ : ∃ P, P = some (D.tup (R.map pD)) := ⟨_, rfl⟩
  have f0 : D.tup [rD lead] = rwD (lead - psum rs 0) (rs.take 0) := by
    show _ = D.tup [rD (lead - psum rs 0 + psum [] 0)]
    rw [psum_zero, psum_zero, show lead - 0 + 0 = lead by grind]
  refine wp_eq ?_
  simp_all! [F_polys_from_corners, m_polys_from_corners, f0]
  refine wp_forM R pD (fun i ρ t' => t' = t ∧ ∃ x3 x4 x5, ρ = [A, P, some (rwD (lead - psum rs (unrun (R.take i)).length) (rs.take (unrun (R.take i)).length)), x3, x4, x5]) ⟨rfl, _, _, _, by rw [hA, hP]; rfl⟩ (fun i p ρ t' hp ⟨ht, x3, x4, x5, hρ⟩ => ?_) (fun ρ t' ⟨ht, x3, x4, x5, hρ⟩ => ?_)
  · subst ht hρ
    obtain ⟨q, hq⟩ : ∃ q, q = (unrun (R.take i)).length := ⟨_, rfl⟩
    have us := unrun_succ hp
    have tot : (unrun (R.take (i + 1))).length ≤ rs.length := by
      have e : unrun R = unrun (R.take (i + 1)) ++ unrun (R.drop (i + 1)) := by rw [← unrun_app, List.take_append_drop]
      have := congrArg List.length e
      rw [q3, nl, List.length_append] at this
      omega
    have hr := range1 (n := p.2) (by omega)
    rw [← hq]
    simp_all! [hr]
    refine wp_forR _ (fun c ρ t2 => t2 = t' ∧ ∃ x5, ρ = [A, P, some (rwD (lead - psum rs (q + c)) (rs.take (q + c))), some (rD p.1), some (.int p.2), x5]) ⟨rfl, _, rfl⟩ (fun c ρ t2 hc ⟨ht, x5, hρ⟩ => ?_) (fun ρ t2 ⟨ht, x5, hρ⟩ => ?_)
    · subst ht hρ
      have hqc : q + c < rs.length := by omega
      have ua := unrun_at hp hc
      rw [q3, ← hq] at ua
      unfold negs at ua
      rw [List.getElem?_map, rgt_eq hqc] at ua
      have ep : p.1 = -(rgt rs (q + c)) := (Option.some.inj ua).symm
      have tk := take_succ (rgt_eq hqc)
      have hdt : Desc (rs.take (q + c) ++ [rgt rs (q + c)]) := by rw [← tk]; exact hd.sublist (List.take_sublist _ _)
      have r1 := hb (q + c) (by omega)
      have r2 : RB 6 (-(rgt rs (q + c))) [rgt rs (q + c)] := by
        have hx := h.r _ (List.mem_of_getElem? (rgt_eq hqc))
        exact ⟨Bd.neg hx, fun x hx' => by rw [List.mem_singleton.mp hx']; exact hx, by simp, by omega⟩
      have pr := product_row r1 r2 (hd.sublist (List.take_sublist _ _)) (by simp) (by simp; omega) t2
      rw [mrg_snoc hdt, ← tk] at pr
      have es : lead - psum rs (q + c) + -(rgt rs (q + c)) = lead - psum rs (q + c + 1) := by rw [psum_succ (rgt_eq hqc)]; grind
      rw [es] at pr
      have tw := two_row (rgt rs (q + c))
      rw [← ep] at tw pr
      simp_all! [tw, pr, pln_row 6]
      exact ⟨_, rfl⟩
    · subst ht hρ
      refine ⟨rfl, _, _, _, by rw [us, ← hq]⟩
  · subst ht hρ
    rw [List.take_length, q3, nl, List.take_length, show lead - psum rs rs.length = a by rw [hlead]; grind]
    simp_all! []
end FL.L
set_option maxRecDepth 100000
set_option maxHeartbeats 1000000
noncomputable section
namespace FL.L
open PySem PySem.Spec PyProof.Rows L2 FL
/-! ### shares: the greatest rises first -/
/-- what is left of the rises -/
def rests : List (Rat × List Rat) → List Nat → List Rat
  | p :: R, n :: F => p.2.drop n ++ rests R F
  | _, _ => []
/-- the sum of the items at the counts -/
def wsum : List (Rat × List Rat) → List Nat → Rat
  | p :: R, n :: F => (p.1 + psum p.2 n) + wsum R F
  | _, _ => 0
theorem rests_set {g : Rat} : ∀ {R : List (Rat × List Rat)} {F : List Nat} {j n : Nat} {p : Rat × List Rat}, R[j]? = some p → F[j]? = some n → p.2[n]? = some g → (rests R F).Perm (g :: rests R (F.set j (n + 1)))
  | [], _, _, _, _, h, _, _ => by simp at h
  | _ :: _, [], _, _, _, _, h, _ => by simp at h
  | q :: R, m :: F, 0, n, p, h1, h2, h3 => by
    simp at h1 h2
    subst h1 h2
    obtain ⟨hn, e⟩ := List.getElem?_eq_some_iff.mp h3
    show (q.2.drop m ++ rests R F).Perm (g :: (q.2.drop (m + 1) ++ rests R F))
    rw [List.drop_eq_getElem_cons hn, e]
    exact List.Perm.refl _
  | q :: R, m :: F, j + 1, n, p, h1, h2, h3 => by
    have ih := rests_set (R := R) (F := F) (j := j) (n := n) (p := p) (g := g) (by simpa using h1) (by simpa using h2) h3
    show (q.2.drop m ++ rests R F).Perm (g :: (q.2.drop m ++ rests R (F.set j (n + 1))))
    exact (ih.append_left _).trans List.perm_middle
theorem wsum_set {g : Rat} : ∀ {R : List (Rat × List Rat)} {F : List Nat} {j n : Nat} {p : Rat × List Rat}, R[j]? = some p → F[j]? = some n → p.2[n]? = some g → wsum R (F.set j (n + 1)) = wsum R F + g
  | [], _, _, _, _, h, _, _ => by simp at h
  | _ :: _, [], _, _, _, _, h, _ => by simp at h
  | q :: R, m :: F, 0, n, p, h1, h2, h3 => by
    simp at h1 h2
    subst h1 h2
    show (q.1 + psum q.2 (m + 1)) + wsum R F = (q.1 + psum q.2 m) + wsum R F + g
    rw [psum_succ h3]; grind
  | q :: R, m :: F, j + 1, n, p, h1, h2, h3 => by
    have ih := wsum_set (R := R) (F := F) (j := j) (n := n) (p := p) (g := g) (by simpa using h1) (by simpa using h2) h3
    show (q.1 + psum q.2 m) + wsum R (F.set j (n + 1)) = (q.1 + psum q.2 m) + wsum R F + g
    rw [ih]; grind
/-- whatever is left is at most a head of a row that has one -/
theorem rests_mem {x : Rat} : ∀ {R : List (Rat × List Rat)} {F : List Nat}, (∀ p ∈ R, Desc p.2) → x ∈ rests R F → ∃ (j : Nat) (p : Rat × List Rat) (n : Nat) (g : Rat), R[j]? = some p ∧ F[j]? = some n ∧ p.2[n]? = some g ∧ x ≤ g
  | [], _, _, h => by simp [rests] at h
  | _ :: _, [], _, h => by simp [rests] at h
  | q :: R, m :: F, hd, h => by
    rcases List.mem_append.mp (show x ∈ q.2.drop m ++ rests R F from h) with z | z
    · obtain ⟨i, hi⟩ := List.getElem?_of_mem z
      rw [List.getElem?_drop] at hi
      have hlt := (List.getElem?_eq_some_iff.mp hi).1
      obtain ⟨g, hg⟩ : ∃ g, q.2[m]? = some g := ⟨_, List.getElem?_eq_getElem (by omega)⟩
      exact ⟨0, q, m, g, rfl, rfl, hg, desc_get (hd q List.mem_cons_self) (by omega) hg hi⟩
    · obtain ⟨j, p, n, g, h1, h2, h3, h4⟩ := rests_mem (fun p hp => hd p (List.mem_cons_of_mem _ hp)) z
      exact ⟨j + 1, p, n, g, h1, h2, h3, h4⟩
theorem sum_set : ∀ {F : List Nat} {j k : Nat}, F[j]? = some k → (F.set j (k + 1)).sum = F.sum + 1
  | [], _, _, h => by simp at h
  | m :: F, 0, k, h => by
    simp at h; subst h
    simp; omega
  | m :: F, j + 1, k, h => by
    have := sum_set (F := F) (j := j) (k := k) (by simpa using h)
    simp [this]; omega
/-- the counts after n turns, the rises M in falling order -/
structure Sh (R : List (Rat × List Rat)) (M : List Rat) (A : Rat) (n : Nat) (F : List Nat) : Prop where
  len : F.length = R.length
  perm : (rests R F).Perm (M.drop n)
  sum : wsum R F = A + psum M n
  le : ∀ (i : Nat) (p : Rat × List Rat) (k : Nat), R[i]? = some p → F[i]? = some k → k ≤ p.2.length
  tot : F.sum = n
/-- one turn: the greatest head -/
theorem Sh.next {R : List (Rat × List Rat)} {M : List Rat} {A : Rat} {n : Nat} {F : List Nat} (s : Sh R M A n F) (hd : ∀ p ∈ R, Desc p.2) (hM : Desc M) (hn : n < M.length) {j : Nat} {p : Rat × List Rat} {k : Nat} {g : Rat} (h1 : R[j]? = some p) (h2 : F[j]? = some k) (h3 : p.2[k]? = some g)
    (hg : ∀ (i : Nat) (q : Rat × List Rat) (m : Nat) (x : Rat), R[i]? = some q → F[i]? = some m → q.2[m]? = some x → x ≤ g) : g = M[n] ∧ Sh R M A (n + 1) (F.set j (k + 1)) := by
  have hp := rests_set h1 h2 h3
  have e : M.drop n = M[n] :: M.drop (n + 1) := List.drop_eq_getElem_cons hn
  have hmem : M[n] ∈ rests R F := s.perm.mem_iff.mpr (by rw [e]; exact List.mem_cons_self)
  obtain ⟨i, q, m, x, e1, e2, e3, e4⟩ := rests_mem hd hmem
  have le1 : M[n] ≤ g := Rat.le_trans e4 (hg i q m x e1 e2 e3)
  have gm : g ∈ M.drop n := s.perm.mem_iff.mp (hp.mem_iff.mpr List.mem_cons_self)
  obtain ⟨i, hi⟩ := List.getElem?_of_mem gm
  rw [List.getElem?_drop] at hi
  have le2 : g ≤ M[n] := desc_get hM (Nat.le_add_right n i) (List.getElem?_eq_getElem hn) hi
  have eg : g = M[n] := Rat.le_antisymm le2 le1
  refine ⟨eg, ⟨by rw [List.length_set]; exact s.len, ?_, ?_, fun i' p' k' f1 f2 => ?_, ?_⟩⟩
  · have := hp.symm.trans s.perm
    rw [e, eg] at this
    exact this.cons_inv
  · rw [wsum_set h1 h2 h3, s.sum, psum_succ (List.getElem?_eq_getElem hn), eg]; grind
  · have hj := (List.getElem?_eq_some_iff.mp h2).1
    by_cases c : j = i'
    · subst c
      rw [List.getElem?_set_self hj] at f2
      rw [h1] at f1
      cases f1; cases f2
      exact (List.getElem?_eq_some_iff.mp h3).1
    · rw [List.getElem?_set_ne c] at f2
      exact s.le i' p' k' f1 f2
  · rw [sum_set h2, s.tot]
/-- there is a head as long as something is left -/
theorem Sh.some {R : List (Rat × List Rat)} {M : List Rat} {A : Rat} {n : Nat} {F : List Nat} (s : Sh R M A n F) (hd : ∀ p ∈ R, Desc p.2) (hn : n < M.length)   : ∃ (j : Nat) (p : Rat × List Rat) (k : Nat) (g : Rat), R[j]? = some p ∧ F[j]? = some k ∧ p.2[k]? = some g := by
  have e : M.drop n = M[n] :: M.drop (n + 1) := List.drop_eq_getElem_cons hn
  have hmem : M[n] ∈ rests R F := s.perm.mem_iff.mpr (by rw [e]; exact List.mem_cons_self)
  obtain ⟨i, q, m, x, e1, e2, e3, e4⟩ := rests_mem hd hmem
  exact ⟨i, q, m, x, e1, e2, e3⟩
end FL.L
set_option maxRecDepth 100000
set_option maxHeartbeats 1000000
noncomputable section
namespace FL.L
open PySem PySem.Spec PyProof.Rows L2 FL
abbrev rP (p : Rat × List Rat) : D := rwD p.1 p.2
abbrev iN (n : Nat) : D := .int n
def bD : Option (Rat × Nat) → D
  | none => .non
  | some b => .tup [rD b.1, .int b.2]
theorem ins_map (l : List Int) : ins (l.map D.int) = some l := by
  induction l with
  | nil => rfl
  | cons a l ih =>
    show (ins (l.map D.int)).map _ = _
    rw [ih]; rfl
/-- a head -/
def Hd (R : List (Rat × List Rat)) (F : List Nat) (i : Nat) (g : Rat) : Prop := ∃ (p : Rat × List Rat) (k : Nat), R[i]? = some p ∧ F[i]? = some k ∧ p.2[k]? = some g
def BInv (R : List (Rat × List Rat)) (F : List Nat) (i : Nat) : Option (Rat × Nat) → Prop
  | none => ∀ j g, j < i → ¬ Hd R F j g
  | some b => Hd R F b.2 b.1 ∧ ∀ j g, j < i → Hd R F j g → g ≤ b.1
theorem shares_ev {R : List (Rat × List Rat)} {M : List Rat} {A0 : Rat} {n : Nat} (hR : R ≠ []) (hl : R.length ≤ 8) (hb : ∀ p ∈ R, RB 6 p.1 p.2) (hd : ∀ p ∈ R, Desc p.2) (hM : Desc M) (hn : n ≤ M.length) (hn2 : n ≤ 1000) (hML : M.length = (R.map fun p => p.2.length).sum) (h0 : Sh R M A0 0 (List.replicate R.length 0)) (t : Tape) :
    ∃ F, F_concave_shares [.tup (R.map rP), .int n] t = some (.tup (F.map iN), t) ∧ Sh R M A0 n F := by
  suffices h : wp (F_concave_shares [.tup (R.map rP), .int n] t) fun o => ∃ F, o = (.tup (F.map iN), t) ∧ Sh R M A0 n F by
    obtain ⟨o, e, F, rfl, h⟩ := h
    exact ⟨F, e, h⟩
  have vr : ∀ q, vD (some q) = rD q := fun _ => rfl
  obtain ⟨A, hA⟩ : ∃ A, A = D.tup (R.map rP) := ⟨_, rfl⟩
  simp_all! [F_concave_shares, m_concave_shares]
  refine wp_forM R rP (fun i ρ t' => t' = t ∧ ∃ x2, ρ = [some A, some (.int n), x2, none, none, none, none, none]) ⟨rfl, _, by rw [hA]⟩ (fun i p ρ t' hp ⟨ht, x2, hρ⟩ => ?_) (fun ρ t' ⟨ht, x2, hρ⟩ => ?_)
  · subst ht hρ
    have ck := row_check_ev (hb p (List.mem_of_getElem? hp)) (hd p (List.mem_of_getElem? hp)) t'
    simp_all! [ck]
    exact ⟨_, rfl⟩
  subst ht hρ
  have c1 : oIsi "tuple" A = some (.bl true) := by rw [hA]; exact isi_tuple_tup _
  have c2 : oEq A (.tup []) = some (.bl false) := by
    rw [hA, oEq_nil _ (shp_tup (n := 8) fun p _ => shp_row 5 _ _)]
    cases R with
    | nil => exact absurd rfl hR
    | cons a l => rfl
  have c3 : gLen [A] = some (.int R.length) := by rw [hA, gLen_tup, List.length_map]
  have c4 : decide ((8 : Int) < (R.length : Int)) = false := decide_eq_false (by omega)
  have c5 : decide ((n : Int) < 0) = false := decide_eq_false (by omega)
  have c6 : dItems A = some (R.map rP) := by rw [hA]; rfl
  simp_all! [c1, c2, c3, c4, c5, c6, d_concave_MOST_ROWS, is_integer_ev]
  refine wp_lc R rP (fun p => .int p.2.length) (fun p hp => ?_) ?_
  · have g1 : ((p.2.length + 1 : Nat) : Int) - 1 = (p.2.length : Int) := by omega
    simp_all! [gLen_row, g1]
  have gs : gSum [.lst (R.map fun p => D.int p.2.length)] = some (.int ((R.map fun p => p.2.length).sum : Nat)) := by
    show (ins _).map _ = _
    have e : (R.map fun p => D.int p.2.length) = ((R.map fun p => ((p.2.length : Nat) : Int)).map D.int) := by rw [List.map_map]; rfl
    rw [e, ins_map]
    show some (D.int _) = _
    congr 2
    clear hA c1 c2 c3 c4 c5 c6 e hML h0 hl hb hd hR
    induction R with
    | nil => rfl
    | cons a l ih => simp only [List.map_cons, List.sum_cons, ih]; omega
  have c7 : decide ((((R.map fun p => p.2.length).sum : Nat) : Int) < (n : Int)) = false := decide_eq_false (by omega)
  have c8 : oRep (.lst [.int 0]) (.int R.length) = some (.lst ((List.replicate R.length 0).map iN)) := by
    show (if rep1 (R.length : Int) [.int 0] = true then _ else _) = _
    rw [rep1_of (by omega) (by omega) (by decide)]
    show some (D.lst (repL (R.length : Int) [.int 0])) = _
    unfold repL
    rw [Int.toNat_natCast]
    congr 2
    generalize R.length = m
    induction m with
    | zero => rfl
    | succ m ih => rw [List.replicate_succ, List.flatten_cons, ih]; rfl
  have hr := range1 (n := n) (by omega)
  simp_all! [show R.length ≤ 100000 by omega, gs, c7, c3, c8, hr]
  refine wp_forR _ (fun i ρ t2 => t2 = t' ∧ ∃ F x2 x4 x5 x6 x7, ρ = [some A, some (.int n), x2, some (.lst (F.map iN)), x4, x5, x6, x7] ∧ Sh R M A0 i F) ⟨rfl, _, _, _, _, _, _, rfl, h0⟩ (fun i ρ t2 hi ⟨ht, F, x2, x4, x5, x6, x7, hρ, hS⟩ => ?_) (fun ρ t2 ⟨ht, F, x2, x4, x5, x6, x7, hρ, hS⟩ => ?_)
  · subst ht hρ
    have c9 : dEnumA [A] = some (dEnum 0 (R.map rP)) := by rw [hA]; rfl
    simp_all! [c9]
    refine wp_for (fun j ρ t3 => t3 = t2 ∧ ∃ B x2 x6 x7, ρ = [some A, some (.int n), x2, some (.lst (F.map iN)), some (.int i), some (bD B), x6, x7] ∧ BInv R F j B) ⟨rfl, none, _, _, _, rfl, fun j g hj => by omega⟩ (fun j d ρ t3 hj ⟨ht, B, x2, x6, x7, hρ, hB⟩ => ?_) (fun ρ t3 ⟨ht, B, x2, x6, x7, hρ, hB⟩ => ?_)
    · subst ht hρ
      obtain ⟨x, hx, rfl⟩ := dEnum_get _ _ _ _ hj
      rw [List.getElem?_map] at hx
      obtain ⟨p, hp, rfl⟩ : ∃ p, R[j]? = some p ∧ x = rP p := by
        cases e : R[j]? with
        | none => rw [e] at hx; cases hx
        | some p => rw [e] at hx; cases hx; exact ⟨p, rfl, rfl⟩
      have hpm := List.mem_of_getElem? hp
      have hjl : j < F.length := by rw [hS.len]; exact (List.getElem?_eq_some_iff.mp hp).1
      obtain ⟨k, hk⟩ : ∃ k, F[j]? = some k := ⟨_, List.getElem?_eq_getElem hjl⟩
      have xk : oIx (.lst (F.map iN)) (.int (j : Int)) = some (.int k) := oIx_lst (by omega) (by rw [Int.toNat_natCast, List.getElem?_map, hk]; rfl)
      rw [Nat.zero_add]
      by_cases c : k < p.2.length
      · have d1 : decide (((k + 1 : Nat) : Int) < ((p.2.length + 1 : Nat) : Int)) = true := decide_eq_true (by omega)
        obtain ⟨g, hg⟩ : ∃ g, p.2[k]? = some g := ⟨_, List.getElem?_eq_getElem c⟩
        have k1 : (k : Int) + 1 = ((k + 1 : Nat) : Int) := by omega
        have x1 := ix_row (m := p.2.length + 1) (rf p.1 p.2) (show k + 1 < p.2.length + 1 by omega)
        have x0 := ix_row (m := p.2.length + 1) (rf p.1 p.2) (show k < p.2.length + 1 by omega)
        have su := subtract_ev (r0b ((hb p hpm).at (k + 1)) (by decide)) (r0b ((hb p hpm).at k) (by decide)) t3
        rw [show p.1 + psum p.2 (k + 1) - (p.1 + psum p.2 k) = g by rw [psum_succ hg]; grind] at su
        have hh : Hd R F j g := ⟨p, k, hp, hk, hg⟩
        have only : ∀ y, Hd R F j y → y = g := fun y ⟨p', k', e1, e2, e3⟩ => by
          rw [hp] at e1; rw [hk] at e2
          cases e1; cases e2
          rw [hg] at e3; cases e3; rfl
        cases B with
        | none =>
          have bi : BInv R F (j + 1) (some (g, j)) := ⟨hh, fun j' y hj' hy => by
            by_cases e : j' = j
            · subst e; rw [only y hy]; exact Rat.le_refl
            · exact absurd hy (hB j' y (by omega))⟩
          have b0 : bD none = .non := rfl
          have bs : D.tup [rD g, .int (j : Int)] = bD (some (g, j)) := rfl
          have o0 : oIs .non .non = some (.bl true) := rfl
          simp_all! [xk, d1, k1, gLen_row, x1, x0, rf, vr, su, pln_rD, b0, o0, bs]
          exact ⟨some (g, j), _, _, _, rfl, bi⟩
        | some b =>
          obtain ⟨g0, j0⟩ := b
          have o0 : oIs (bD (some (g0, j0))) .non = some (.bl false) := rfl
          have b0 : oIx (bD (some (g0, j0))) (.int 0) = some (rD g0) := rfl
          have bs : D.tup [rD g, .int (j : Int)] = bD (some (g, j)) := rfl
          have r0 : R0 g0 := by
            obtain ⟨p', k', e1, e2, e3⟩ := hB.1
            exact r0b ((hb p' (List.mem_of_getElem? e1)).r g0 (List.mem_of_getElem? e3)) (by decide)
          have le := less_ev r0 (r0b ((hb p hpm).r g (List.mem_of_getElem? hg)) (by decide)) t3
          by_cases lt : g0 < g
          · rw [decide_eq_true lt] at le
            have bi : BInv R F (j + 1) (some (g, j)) := ⟨hh, fun j' y hj' hy => by
              by_cases e : j' = j
              · subst e; rw [only y hy]; exact Rat.le_refl
              · exact Rat.le_trans (hB.2 j' y (by omega) hy) (Rat.le_of_lt lt)⟩
            simp_all! [xk, d1, k1, gLen_row, x1, x0, rf, vr, su, pln_rD, b0, o0, bs, le]
            exact ⟨some (g, j), _, _, _, rfl, bi⟩
          · rw [decide_eq_false lt] at le
            have bi : BInv R F (j + 1) (some (g0, j0)) := ⟨hB.1, fun j' y hj' hy => by
              by_cases e : j' = j
              · subst e; rw [only y hy]; exact Rat.not_lt.mp lt
              · exact hB.2 j' y (by omega) hy⟩
            simp_all! [xk, d1, k1, gLen_row, x1, x0, rf, vr, su, pln_rD, b0, o0, bs, le]
            exact ⟨some (g0, j0), _, _, _, rfl, bi⟩
      · have d1 : decide ((k : Int) + 1 < ((p.2.length + 1 : Nat) : Int)) = false := decide_eq_false (by omega)
        have no : ∀ y, ¬ Hd R F j y := fun y ⟨p', k', e1, e2, e3⟩ => by
          rw [hp] at e1; rw [hk] at e2
          cases e1; cases e2
          exact c (List.getElem?_eq_some_iff.mp e3).1
        have bi : BInv R F (j + 1) B := by
          cases B with
          | none =>
            intro j' y hj' hy
            by_cases e : j' = j
            · subst e; exact no y hy
            · exact hB j' y (by omega) hy
          | some b =>
            refine ⟨hB.1, fun j' y hj' hy => ?_⟩
            by_cases e : j' = j
            · subst e; exact absurd hy (no y)
            · exact hB.2 j' y (by omega) hy
        simp_all! [xk, d1, gLen_row]
        exact ⟨B, _, _, _, rfl, bi⟩
    · subst ht hρ
      have hin : i < M.length := by omega
      rw [dEnum_len, List.length_map] at hB
      cases B with
      | none =>
        obtain ⟨j, p, k, g, e1, e2, e3⟩ := hS.some hd hin
        exact absurd ⟨p, k, e1, e2, e3⟩ (hB j g (List.getElem?_eq_some_iff.mp e1).1)
      | some b =>
        obtain ⟨g, j⟩ := b
        obtain ⟨⟨p, k, e1, e2, e3⟩, hg⟩ := hB
        have nx := (hS.next hd hM hin e1 e2 e3 fun i' q m x f1 f2 f3 => hg i' x (List.getElem?_eq_some_iff.mp f1).1 ⟨q, m, f1, f2, f3⟩).2
        have b1 : oIx (bD (some (g, j))) (.int 1) = some (.int j) := rfl
        have hjl : j < F.length := (List.getElem?_eq_some_iff.mp e2).1
        have ixj : ixN F.length (j : Int) = some j := ixN_nat hjl
        have gj : (F.map iN)[j]? = some (.int k) := by rw [List.getElem?_map, e2]; rfl
        have st : (F.map iN).set j (.int ((k : Int) + 1)) = (F.set j (k + 1)).map iN := by rw [List.map_set]; rfl
        simp_all! [y_augI, b1, ixj, gj]
        exact ⟨F.set j (k + 1), x2, some (.int i), some (bD (some (g, j))), x6, x7, by rw [← st], nx⟩
  · subst ht hρ
    simp_all! []
    exact ⟨F, rfl, hS⟩
end FL.L
set_option maxRecDepth 100000
set_option maxHeartbeats 1000000
noncomputable section
namespace FL.L
open PySem PySem.Spec PyProof.Rows L2 FL
theorem wsum_take : ∀ {R : List (Rat × List Rat)} {F : List Nat} {i k : Nat} {p : Rat × List Rat}, R[i]? = some p → F[i]? = some k → wsum (R.take (i + 1)) (F.take (i + 1)) = wsum (R.take i) (F.take i) + (p.1 + psum p.2 k)
  | [], _, _, _, _, h, _ => by simp at h
  | _ :: _, [], _, _, _, _, h => by simp at h
  | q :: R, m :: F, 0, k, p, h1, h2 => by
    simp at h1 h2
    subst h1 h2
    show (q.1 + psum q.2 m) + wsum (R.take 0) (F.take 0) = 0 + (q.1 + psum q.2 m)
    simp [wsum]; grind
  | q :: R, m :: F, i + 1, k, p, h1, h2 => by
    have ih := wsum_take (R := R) (F := F) (i := i) (k := k) (p := p) (by simpa using h1) (by simpa using h2)
    show (q.1 + psum q.2 m) + wsum (R.take (i + 1)) (F.take (i + 1)) = (q.1 + psum q.2 m) + wsum (R.take i) (F.take i) + (p.1 + psum p.2 k)
    rw [ih]; grind
theorem worth_ev {R : List (Rat × List Rat)} {F : List Nat} (hl : R.length ≤ 8) (hb : ∀ p ∈ R, RB 6 p.1 p.2) (hlen : F.length = R.length) (hle : ∀ (i : Nat) (p : Rat × List Rat) (k : Nat), R[i]? = some p → F[i]? = some k → k ≤ p.2.length) (t : Tape) :
    F_concave_worth [.tup (R.map rP), .tup (F.map iN)] t = some (rD (wsum R F), t) ∧ Bd 6 (R.length * 1200) (wsum R F) := by
  have vr : ∀ q, vD (some q) = rD q := fun _ => rfl
  have hw : ∀ i, i ≤ R.length → Bd 6 (i * 1200) (wsum (R.take i) (F.take i)) := fun i => by
    induction i with
    | zero => intro _; exact Bd.zero
    | succ i ih =>
      intro hi
      obtain ⟨p, hp⟩ : ∃ p, R[i]? = some p := ⟨_, List.getElem?_eq_getElem (by omega)⟩
      obtain ⟨k, hk⟩ : ∃ k, F[i]? = some k := ⟨_, List.getElem?_eq_getElem (by omega)⟩
      rw [wsum_take hp hk, Nat.succ_mul]
      exact Bd.add (by decide) (ih (by omega)) ((hb p (List.mem_of_getElem? hp)).at k)
  have hall : wsum (R.take R.length) (F.take R.length) = wsum R F := by rw [List.take_length, ← hlen, List.take_length]
  refine ⟨wp_eq ?_, by rw [← hall]; exact hw _ (Nat.le_refl _)⟩
  obtain ⟨A, hA⟩ : ∃ A, A = D.tup (R.map rP) := ⟨_, rfl⟩
  obtain ⟨L, hL⟩ : ∃ L, L = D.tup (F.map iN) := ⟨_, rfl⟩
  have hz : dZipA [A, L] = some (dZip (R.map rP) (F.map iN)) := by rw [hA, hL]; rfl
  have z0 : d_ratios_ZERO = rD (wsum (R.take 0) (F.take 0)) := by simp [wsum]; rfl
  rw [← hA, ← hL]
  simp_all! [F_concave_worth, m_concave_worth, hz, z0]
  refine wp_for (fun i ρ t2 => t2 = t ∧ ∃ x3 x4, ρ = [some A, some L, some (rD (wsum (R.take i) (F.take i))), x3, x4]) ⟨rfl, _, _, by rw [← z0]⟩ (fun i d ρ t2 hi ⟨ht, x3, x4, hρ⟩ => ?_) (fun ρ t2 ⟨ht, x3, x4, hρ⟩ => ?_)
  · subst ht hρ
    obtain ⟨x, y, h1, h2, rfl⟩ := dZip_get _ _ _ _ hi
    rw [List.getElem?_map] at h1 h2
    obtain ⟨p, hp, rfl⟩ : ∃ p, R[i]? = some p ∧ x = rP p := by
      cases e : R[i]? with
      | none => rw [e] at h1; cases h1
      | some p => rw [e] at h1; cases h1; exact ⟨p, rfl, rfl⟩
    obtain ⟨k, hk, rfl⟩ : ∃ k, F[i]? = some k ∧ y = iN k := by
      cases e : F[i]? with
      | none => rw [e] at h2; cases h2
      | some k => rw [e] at h2; cases h2; exact ⟨k, rfl, rfl⟩
    have hkl := hle i p k hp hk
    have hi2 : i < R.length := (List.getElem?_eq_some_iff.mp hp).1
    have d0 : decide ((k : Int) < 0) = false := decide_eq_false (by omega)
    have d1 : decide (((p.2.length + 1 : Nat) : Int) ≤ (k : Int)) = false := decide_eq_false (by omega)
    have xk := ix_row (m := p.2.length + 1) (rf p.1 p.2) (show k < p.2.length + 1 by omega)
    have ad := add_ev (r0b (hw i (by omega)) (by omega)) (r0b ((hb p (List.mem_of_getElem? hp)).at k) (by decide)) t2
    rw [← wsum_take hp hk] at ad
    simp_all! [is_integer_ev, d0, d1, gLen_row, xk, rf, vr, ad, pln_rD]
    exact ⟨_, _, rfl⟩
  · subst ht hρ
    have hdl : (dZip (R.map rP) (F.map iN)).length = R.length := by rw [dZip_len]; simp; omega
    rw [hdl, hall]
    simp_all! []
end FL.L
set_option maxRecDepth 100000
set_option maxHeartbeats 1000000
noncomputable section
namespace FL.L
open PySem PySem.Spec PyProof.Rows L2 FL
/-- what is taken of the rises -/
def takes : List (Rat × List Rat) → List Nat → List Rat
  | p :: R, n :: F => p.2.take n ++ takes R F
  | _, _ => []
theorem takes_rests : ∀ (R : List (Rat × List Rat)) (F : List Nat), F.length = R.length → (takes R F ++ rests R F).Perm (R.flatMap fun p => p.2)
  | [], _, _ => by simp [takes, rests]
  | p :: R, [], h => by simp at h
  | p :: R, n :: F, h => by
    have ih := takes_rests R F (by simpa using h)
    show ((p.2.take n ++ takes R F) ++ (p.2.drop n ++ rests R F)).Perm (p.2 ++ R.flatMap fun p => p.2)
    have e : p.2 = p.2.take n ++ p.2.drop n := (List.take_append_drop n p.2).symm
    have h1 : ((p.2.take n ++ takes R F) ++ (p.2.drop n ++ rests R F)).Perm ((p.2.take n ++ p.2.drop n) ++ (takes R F ++ rests R F)) := by
      rw [List.append_assoc, List.append_assoc]
      refine List.Perm.append_left _ ?_
      rw [← List.append_assoc, ← List.append_assoc]
      exact List.Perm.append_right _ List.perm_append_comm
    rw [List.take_append_drop] at h1
    exact h1.trans (ih.append_left _)
theorem takes_perm {R : List (Rat × List Rat)} {M : List Rat} {A : Rat} {n : Nat} {F : List Nat} (s : Sh R M A n F) (hM : M.Perm (R.flatMap fun p => p.2)) : (takes R F).Perm (M.take n) := by
  have h := takes_rests R F s.len
  have h2 : (takes R F ++ rests R F).Perm (M.take n ++ M.drop n) := by rw [List.take_append_drop]; exact h.trans hM.symm
  have h3 := (List.Perm.append_left (M.take n) s.perm).symm
  exact (List.perm_append_right_iff (rests R F)).mp (h2.trans h3)
/-- a taken one is at least the last one taken of its row -/
theorem takes_mem {x : Rat} : ∀ {R : List (Rat × List Rat)} {F : List Nat}, (∀ p ∈ R, Desc p.2) → x ∈ takes R F → ∃ (j : Nat) (p : Rat × List Rat) (n : Nat) (g : Rat), R[j]? = some p ∧ F[j]? = some (n + 1) ∧ p.2[n]? = some g ∧ g ≤ x ∨ ∃ (j : Nat) (p : Rat × List Rat) (k : Nat), R[j]? = some p ∧ F[j]? = some k ∧ p.2.length < k
  | [], _, _, h => by simp [takes] at h
  | _ :: _, [], _, h => by simp [takes] at h
  | q :: R, m :: F, hd, h => by
    rcases List.mem_append.mp (show x ∈ q.2.take m ++ takes R F from h) with z | z
    · obtain ⟨i, hi⟩ := List.getElem?_of_mem z
      have him : i < m := by have := (List.getElem?_eq_some_iff.mp hi).1; simp at this; omega
      rw [List.getElem?_take_of_lt him] at hi
      obtain ⟨m, rfl⟩ : ∃ k, m = k + 1 := ⟨m - 1, by omega⟩
      by_cases c : m < q.2.length
      · exact ⟨0, q, m, q.2[m], .inl ⟨rfl, rfl, List.getElem?_eq_getElem c, desc_get (hd q List.mem_cons_self) (by omega) hi (List.getElem?_eq_getElem c)⟩⟩
      · exact ⟨0, q, 0, 0, .inr ⟨0, q, m + 1, rfl, rfl, by omega⟩⟩
    · obtain ⟨j, p, n, g, h1⟩ := takes_mem (fun p hp => hd p (List.mem_cons_of_mem _ hp)) z
      rcases h1 with ⟨h1, h2, h3, h4⟩ | ⟨j', p', k', h1, h2, h3⟩
      · exact ⟨j + 1, p, n, g, .inl ⟨h1, h2, h3, h4⟩⟩
      · exact ⟨0, p, 0, 0, .inr ⟨j' + 1, p', k', h1, h2, h3⟩⟩
theorem mem_takes {g : Rat} : ∀ {R : List (Rat × List Rat)} {F : List Nat} {j n : Nat} {p : Rat × List Rat}, R[j]? = some p → F[j]? = some (n + 1) → p.2[n]? = some g → g ∈ takes R F
  | [], _, _, _, _, h, _, _ => by simp at h
  | _ :: _, [], _, _, _, _, h, _ => by simp at h
  | q :: R, m :: F, 0, n, p, h1, h2, h3 => by
    simp at h1 h2
    subst h1 h2
    refine List.mem_append_left _ (List.mem_of_getElem? (i := n) ?_)
    rw [List.getElem?_take_of_lt (by omega)]; exact h3
  | q :: R, m :: F, j + 1, n, p, h1, h2, h3 => List.mem_append_right _ (mem_takes (R := R) (F := F) (j := j) (n := n) (p := p) (by simpa using h1) (by simpa using h2) h3)
end FL.L
set_option maxRecDepth 100000
set_option maxHeartbeats 1000000
noncomputable section
namespace FL.L
open PySem PySem.Spec PyProof.Rows L2 FL
theorem dZip_zip {α β : Type} (f : α → D) (g : β → D) : ∀ (l : List α) (m : List β), dZip (l.map f) (m.map g) = (l.zip m).map fun z => D.tup [f z.1, g z.2]
  | [], _ => rfl
  | _ :: _, [] => rfl
  | x :: l, y :: m => by
    show D.tup [f x, g y] :: dZip (l.map f) (m.map g) = D.tup [f x, g y] :: (l.zip m).map _
    rw [dZip_zip f g l m]
def usedL (R : List (Rat × List Rat)) (F : List Nat) : List Rat := ((R.zip F).filter fun z => decide (0 < z.2)).map fun z => rgt z.1.2 (z.2 - 1)
def leftL (R : List (Rat × List Rat)) (F : List Nat) : List Rat := ((R.zip F).filter fun z => decide (z.2 < z.1.2.length)).map fun z => rgt z.1.2 z.2
theorem zipm_at {R : List (Rat × List Rat)} {F : List Nat} {z : (Rat × List Rat) × Nat} (h : z ∈ R.zip F) : ∃ i : Nat, R[i]? = some z.1 ∧ F[i]? = some z.2 := by
  obtain ⟨i, hi⟩ := List.getElem?_of_mem h
  exact ⟨i, List.getElem?_zip_eq_some.mp hi⟩
theorem vless_some (a b : Rat) : vless (some a) (some b) = decide (a < b) := rfl
/-- the price: the least used rise, or the greatest one left -/
theorem price_ev {R : List (Rat × List Rat)} {F : List Nat} {n : Nat} (hl : R.length ≤ 8) (hb : ∀ p ∈ R, RB 6 p.1 p.2) (hlen : F.length = R.length) (hle : ∀ (i : Nat) (p : Rat × List Rat) (k : Nat), R[i]? = some p → F[i]? = some k → k ≤ p.2.length) (t : Tape)
    (hs : F_concave_shares [.tup (R.map rP), .int n] t = some (.tup (F.map iN), t)) :
    ∃ v, F_concave_price [.tup (R.map rP), .int n] t = some (vD v, t) ∧ ((usedL R F = [] ∧ SupOf (fun y => y ∈ (leftL R F).map some) v) ∨ ∃ g, v = some g ∧ g ∈ usedL R F ∧ ∀ u ∈ usedL R F, g ≤ u) := by
  suffices h : wp (F_concave_price [.tup (R.map rP), .int n] t) fun o => ∃ v, o = (vD v, t) ∧ ((usedL R F = [] ∧ SupOf (fun y => y ∈ (leftL R F).map some) v) ∨ ∃ g, v = some g ∧ g ∈ usedL R F ∧ ∀ u ∈ usedL R F, g ≤ u) by
    obtain ⟨o, e, v, rfl, h⟩ := h
    exact ⟨v, e, h⟩
  have vr : ∀ q, vD (some q) = rD q := fun _ => rfl
  obtain ⟨A, hA⟩ : ∃ A, A = D.tup (R.map rP) := ⟨_, rfl⟩
  obtain ⟨L, hL⟩ : ∃ L, L = D.tup (F.map iN) := ⟨_, rfl⟩
  have hz : dZipA [A, L] = some ((R.zip F).map fun z => D.tup [rP z.1, iN z.2]) := by rw [hA, hL, ← dZip_zip]; rfl
  have pL : pln 9 L = true := by rw [hL]; exact pln_tup (n := 8) fun a _ => rfl
  have zl : (R.zip F).length ≤ 100000 := by simp; omega
  have rU : ∀ u ∈ usedL R F, R0 u := fun u hu => by
    obtain ⟨z, hz, rfl⟩ := List.mem_map.mp hu
    obtain ⟨hz1, hz2⟩ := List.mem_filter.mp hz
    obtain ⟨i, e1, e2⟩ := zipm_at hz1
    have := hle i _ _ e1 e2
    have h0 : 0 < z.2 := of_decide_eq_true hz2
    exact r0b ((hb z.1 (List.mem_of_getElem? e1)).r _ (List.mem_of_getElem? (rgt_eq (by omega)))) (by decide)
  have rV : ∀ u ∈ leftL R F, R0 u := fun u hu => by
    obtain ⟨z, hz, rfl⟩ := List.mem_map.mp hu
    obtain ⟨hz1, hz2⟩ := List.mem_filter.mp hz
    obtain ⟨i, e1, e2⟩ := zipm_at hz1
    exact r0b ((hb z.1 (List.mem_of_getElem? e1)).r _ (List.mem_of_getElem? (rgt_eq (of_decide_eq_true hz2)))) (by decide)
  rw [← hA, ← hL] at hs
  rw [← hA]
  simp_all! [F_concave_price, m_concave_price, hs, pL, hz]
  refine wp_lcF (R.zip F) (fun z => D.tup [rP z.1, iN z.2]) (fun z => rD (rgt z.1.2 (z.2 - 1))) (fun z => decide (0 < z.2)) (fun z hz' => ?_) ?_
  · obtain ⟨i, e1, e2⟩ := zipm_at hz'
    have hk := hle i _ _ e1 e2
    obtain ⟨⟨a, rs⟩, k⟩ := z
    have d0 : decide ((0 : Int) < (k : Int)) = decide (0 < k) := by simp
    have hk' : k ≤ rs.length := hk
    simp_all! [d0]
    intro h0
    have h0' : 0 < k := by simpa using h0
    have k1 : (k : Int) - 1 = ((k - 1 : Nat) : Int) := by omega
    have hbb := hb _ (List.mem_of_getElem? e1)
    have x1 := ix_row (m := rs.length + 1) (rf a rs) (show k < rs.length + 1 by omega)
    have x0 := ix_row (m := rs.length + 1) (rf a rs) (show k - 1 < rs.length + 1 by omega)
    have su := subtract_ev (r0b (hbb.at k) (by decide)) (r0b (hbb.at (k - 1)) (by decide)) t
    have g1 := psum_succ (rgt_eq (rs := rs) (i := k - 1) (by omega))
    rw [show k - 1 + 1 = k by omega] at g1
    rw [show a + psum rs k - (a + psum rs (k - 1)) = rgt rs (k - 1) by rw [g1]; grind] at su
    simp_all! [k1, x1, x0, rf, vr, su, pln_rD]
  have hU : (List.map (fun z => rD (rgt z.1.2 (z.2 - 1))) (List.filter (fun z => decide (0 < z.2)) (R.zip F))) = (usedL R F).map rD := by unfold usedL; rw [List.map_map]; rfl
  have lU : (usedL R F).length ≤ 100000 := by
    unfold usedL
    rw [List.length_map]
    exact Nat.le_trans (List.length_filter_le _ _) zl
  rw [hU]
  simp_all! [lU, hz]
  refine wp_lcF (R.zip F) (fun z => D.tup [rP z.1, iN z.2]) (fun z => rD (rgt z.1.2 z.2)) (fun z => decide (z.2 < z.1.2.length)) (fun z hz' => ?_) ?_
  · obtain ⟨i, e1, e2⟩ := zipm_at hz'
    obtain ⟨⟨a, rs⟩, k⟩ := z
    have d0 : decide ((k : Int) + 1 < ((rs.length + 1 : Nat) : Int)) = decide (k < rs.length) := decide_eq_decide.mpr (by omega)
    simp_all! [d0, gLen_row]
    intro h0
    have h0 : k < rs.length := by simpa using h0
    have k1 : (k : Int) + 1 = ((k + 1 : Nat) : Int) := by omega
    have hbb := hb _ (List.mem_of_getElem? e1)
    have x1 := ix_row (m := rs.length + 1) (rf a rs) (show k + 1 < rs.length + 1 by omega)
    have x0 := ix_row (m := rs.length + 1) (rf a rs) (show k < rs.length + 1 by omega)
    have su := subtract_ev (r0b (hbb.at (k + 1)) (by decide)) (r0b (hbb.at k) (by decide)) t
    have g1 := psum_succ (rgt_eq (rs := rs) (i := k) h0)
    rw [show a + psum rs (k + 1) - (a + psum rs k) = rgt rs k by rw [g1]; grind] at su
    simp_all! [k1, x1, x0, rf, vr, su, pln_rD]
  have hV : (List.map (fun z => rD (rgt z.1.2 z.2)) (List.filter (fun z => decide (z.2 < z.1.2.length)) (R.zip F))) = (leftL R F).map rD := by unfold leftL; rw [List.map_map]; rfl
  have lV : (leftL R F).length ≤ 100000 := by
    unfold leftL
    rw [List.length_map]
    exact Nat.le_trans (List.length_filter_le _ _) zl
  rw [hV]
  cases hUU : usedL R F with
  | nil =>
    have eV : (leftL R F).map rD = ((leftL R F).map some).map vD := by rw [List.map_map]; rfl
    have gr := greatest_evL (l := (leftL R F).map some) (fun v hv => by
      obtain ⟨q, hq, rfl⟩ := List.mem_map.mp hv
      exact V0.some (rV q hq)) t
    rw [← eV] at gr
    have su := vmaxL_none ((leftL R F).map some)
    simp_all! [lV, hUU, eq_n, gr, pln_vD]
    exact ⟨_, rfl, .inl su⟩
  | cons u U =>
    have lU2 : U.length ≤ 100000 := by rw [hUU] at lU; simp at lU; omega
    have rU2 : ∀ x ∈ u :: U, R0 x := fun x hx => rU x (by rw [hUU]; exact hx)
    simp_all! [lV, hUU, eq_c, ix_c, oSlL, cut1]
    rw [List.tail_cons]
    refine wp_forM U rD (fun i ρ t2 => t2 = t ∧ ∃ low x6, ρ = [some A, some (.int n), some L, some (D.lst (rD u :: U.map rD)), some (D.lst ((leftL R F).map rD)), some (rD low), x6, none, none] ∧ low ∈ u :: U ∧ ∀ x ∈ u :: U.take i, low ≤ x) ⟨rfl, u, _, rfl, List.mem_cons_self, fun x hx => by simp at hx; rw [hx]; exact Rat.le_refl⟩ (fun i x ρ t2 hx ⟨ht, low, x6, hρ, hm, hlow⟩ => ?_) (fun ρ t2 ⟨ht, low, x6, hρ, hm, hlow⟩ => ?_)
    · subst ht hρ
      have hxm : x ∈ u :: U := List.mem_cons_of_mem _ (List.mem_of_getElem? hx)
      have le := less_ev (rU2 x hxm) (rU2 low hm) t2
      have tk := take_succ hx
      by_cases c : x < low
      · rw [decide_eq_true c] at le
        have g : ∀ y ∈ u :: U.take (i + 1), x ≤ y := fun y hy => by
          rw [tk] at hy
          rcases List.mem_cons.mp hy with z | z
          · exact Rat.le_trans (Rat.le_of_lt c) (hlow y (by rw [z]; exact List.mem_cons_self))
          · rcases List.mem_append.mp z with z | z
            · exact Rat.le_trans (Rat.le_of_lt c) (hlow y (List.mem_cons_of_mem _ z))
            · rw [List.mem_singleton.mp z]; exact Rat.le_refl
        clear tk hlow
        simp_all! [le, pln_rD]
        exact ⟨x, _, rfl, hxm, g⟩
      · rw [decide_eq_false c] at le
        have g : ∀ y ∈ u :: U.take (i + 1), low ≤ y := fun y hy => by
          rw [tk] at hy
          rcases List.mem_cons.mp hy with z | z
          · exact hlow y (by rw [z]; exact List.mem_cons_self)
          · rcases List.mem_append.mp z with z | z
            · exact hlow y (List.mem_cons_of_mem _ z)
            · rw [List.mem_singleton.mp z]; exact Rat.not_lt.mp c
        clear tk hlow
        simp_all! [le, pln_rD]
        exact ⟨low, _, rfl, hm, g⟩
    · subst ht hρ
      rw [List.take_length] at hlow
      simp_all! []
      exact ⟨some low, rfl, .inr ⟨low, rfl, by first | exact hm | simpa using hm, by first | exact hlow | simpa using hlow⟩⟩
end FL.L
set_option maxRecDepth 100000
set_option maxHeartbeats 1000000
noncomputable section
namespace FL.L
open PySem PySem.Spec PyProof.Rows L2 FL
theorem zip_mem {R : List (Rat × List Rat)} {F : List Nat} {j k : Nat} {p : Rat × List Rat} (h1 : R[j]? = some p) (h2 : F[j]? = some k) : (p, k) ∈ R.zip F :=
  List.mem_of_getElem? (i := j) (List.getElem?_zip_eq_some.mpr ⟨h1, h2⟩)
theorem leftL_iff {R : List (Rat × List Rat)} {F : List Nat} {u : Rat} : u ∈ leftL R F ↔ ∃ (j : Nat) (p : Rat × List Rat) (k : Nat), R[j]? = some p ∧ F[j]? = some k ∧ p.2[k]? = some u := by
  unfold leftL
  constructor
  · intro h
    obtain ⟨z, hz, rfl⟩ := List.mem_map.mp h
    obtain ⟨hz1, hz2⟩ := List.mem_filter.mp hz
    obtain ⟨i, e1, e2⟩ := zipm_at hz1
    exact ⟨i, _, _, e1, e2, rgt_eq (of_decide_eq_true hz2)⟩
  · rintro ⟨j, p, k, h1, h2, h3⟩
    have hk := (List.getElem?_eq_some_iff.mp h3).1
    refine List.mem_map.mpr ⟨(p, k), List.mem_filter.mpr ⟨zip_mem h1 h2, decide_eq_true hk⟩, ?_⟩
    unfold rgt
    show (p.2[k]?).getD 0 = u
    rw [h3]; rfl
theorem usedL_iff {R : List (Rat × List Rat)} {F : List Nat} {u : Rat} (hle : ∀ (i : Nat) (p : Rat × List Rat) (k : Nat), R[i]? = some p → F[i]? = some k → k ≤ p.2.length) : u ∈ usedL R F ↔ ∃ (j : Nat) (p : Rat × List Rat) (k : Nat), R[j]? = some p ∧ F[j]? = some (k + 1) ∧ p.2[k]? = some u := by
  unfold usedL
  constructor
  · intro h
    obtain ⟨z, hz, rfl⟩ := List.mem_map.mp h
    obtain ⟨hz1, hz2⟩ := List.mem_filter.mp hz
    obtain ⟨i, e1, e2⟩ := zipm_at hz1
    have h0 : 0 < z.2 := of_decide_eq_true hz2
    have := hle i _ _ e1 e2
    exact ⟨i, z.1, z.2 - 1, e1, by rw [e2]; congr 1; omega, rgt_eq (by omega)⟩
  · rintro ⟨j, p, k, h1, h2, h3⟩
    refine List.mem_map.mpr ⟨(p, k + 1), List.mem_filter.mpr ⟨zip_mem h1 h2, decide_eq_true (Nat.succ_pos k)⟩, ?_⟩
    unfold rgt
    show (p.2[k + 1 - 1]?).getD 0 = u
    rw [Nat.add_sub_cancel, h3]; rfl
theorem sum_zero : ∀ {F : List Nat}, F.sum = 0 → ∀ {j k : Nat}, F[j]? = some k → k = 0
  | [], _, _, _, h => by simp at h
  | m :: F, hs, 0, k, h => by simp at h hs; omega
  | m :: F, hs, j + 1, k, h => by
    simp at hs
    exact sum_zero (F := F) hs.2 (j := j) (by simpa using h)
theorem sum_some : ∀ {F : List Nat}, 0 < F.sum → ∃ j k : Nat, F[j]? = some (k + 1)
  | [], h => by simp at h
  | m :: F, h => by
    by_cases c : m = 0
    · subst c
      obtain ⟨j, k, e⟩ := sum_some (F := F) (by simpa using h)
      exact ⟨j + 1, k, e⟩
    · exact ⟨0, m - 1, by show some m = some (m - 1 + 1); congr 1; omega⟩
/-- the price told by all rises in falling order -/
theorem price_val {R : List (Rat × List Rat)} {M : List Rat} {A : Rat} {n : Nat} {F : List Nat} {v : Option Rat} (s : Sh R M A n F) (hd : ∀ p ∈ R, Desc p.2) (hM : Desc M) (hnM' : n ≤ M.length) (hp : M.Perm (R.flatMap fun p => p.2))
    (h : (usedL R F = [] ∧ SupOf (fun y => y ∈ (leftL R F).map some) v) ∨ ∃ g, v = some g ∧ g ∈ usedL R F ∧ ∀ u ∈ usedL R F, g ≤ u) : v = if n = 0 then M[0]? else M[n - 1]? := by
  have uiff := fun u => usedL_iff (u := u) s.le
  by_cases hn : n = 0
  · rw [if_pos hn]
    subst hn
    have nou : ∀ u, u ∉ usedL R F := fun u hu => by
      obtain ⟨j, p, k, e1, e2, e3⟩ := (uiff u).mp hu
      have := sum_zero s.tot e2
      omega
    rcases h with ⟨_, hv⟩ | ⟨g, _, hg, _⟩
    case inr => exact absurd hg (nou g)
    have pm : (rests R F).Perm M := by have := s.perm; rwa [List.drop_zero] at this
    cases hMM : M with
    | nil =>
      refine hv.uniq (SupOf.none fun x hx => ?_)
      obtain ⟨u, hu, rfl⟩ := List.mem_map.mp hx
      obtain ⟨j, p, k, e1, e2, e3⟩ := leftL_iff.mp hu
      have := (rests_set e1 e2 e3).mem_iff.mpr List.mem_cons_self
      have := pm.mem_iff.mp this
      rw [hMM] at this; cases this
    | cons x M' =>
      have xm : x ∈ rests R F := pm.mem_iff.mpr (by rw [hMM]; exact List.mem_cons_self)
      have top : ∀ y ∈ M, y ≤ x := fun y hy => by
        rw [hMM] at hy hM
        rcases List.mem_cons.mp hy with z | z
        · rw [z]; exact Rat.le_refl
        · exact (List.pairwise_cons.mp hM).1 y z
      obtain ⟨j, p, k, g, e1, e2, e3, e4⟩ := rests_mem hd xm
      have gm : g ∈ M := pm.mem_iff.mp ((rests_set e1 e2 e3).mem_iff.mpr List.mem_cons_self)
      have eg : g = x := Rat.le_antisymm (top g gm) e4
      refine hv.uniq ⟨fun y hy => ?_, .inr (List.mem_map.mpr ⟨x, leftL_iff.mpr ⟨j, p, k, e1, e2, by rw [e3, eg]⟩, rfl⟩)⟩
      obtain ⟨u, hu, rfl⟩ := List.mem_map.mp hy
      obtain ⟨j', p', k', f1, f2, f3⟩ := leftL_iff.mp hu
      exact top u (pm.mem_iff.mp ((rests_set f1 f2 f3).mem_iff.mpr List.mem_cons_self))
  · rw [if_neg hn]
    have tp := takes_perm s hp
    obtain ⟨j, k, e2⟩ := sum_some (F := F) (by rw [s.tot]; omega)
    have hjl : j < R.length := by rw [← s.len]; exact (List.getElem?_eq_some_iff.mp e2).1
    have hkl := s.le j _ _ (List.getElem?_eq_getElem hjl) e2
    have some1 : rgt (R[j]).2 k ∈ usedL R F := (uiff _).mpr ⟨j, R[j], k, List.getElem?_eq_getElem hjl, e2, rgt_eq (by omega)⟩
    rcases h with ⟨h0, _⟩ | ⟨g, rfl, hg, hmin⟩
    · rw [h0] at some1; cases some1
    obtain ⟨j', p', k', f1, f2, f3⟩ := (uiff g).mp hg
    have gm := tp.mem_iff.mp (mem_takes f1 f2 f3)
    obtain ⟨i, hi⟩ := List.getElem?_of_mem gm
    have hin : i < n := by have := (List.getElem?_eq_some_iff.mp hi).1; simp at this; omega
    have hiM : i < M.length := by have := (List.getElem?_eq_some_iff.mp hi).1; simp at this; omega
    rw [List.getElem?_take_of_lt hin] at hi
    have hnM : n - 1 < M.length := by omega
    obtain ⟨y, hy⟩ : ∃ y, M[n - 1]? = some y := ⟨_, List.getElem?_eq_getElem hnM⟩
    rw [hy]
    have le1 : y ≤ g := desc_get hM (by omega) hi hy
    have ym : y ∈ takes R F := tp.mem_iff.mpr (List.mem_of_getElem? (i := n - 1) (by rw [List.getElem?_take_of_lt (by omega)]; exact hy))
    obtain ⟨j2, p2, n2, g2, h2⟩ := takes_mem hd ym
    rcases h2 with ⟨a1, a2, a3, a4⟩ | ⟨j3, p3, k3, a1, a2, a3⟩
    · have := hmin g2 ((uiff g2).mpr ⟨j2, p2, n2, a1, a2, a3⟩)
      congr 1
      exact Rat.le_antisymm (Rat.le_trans this a4) le1
    · have := s.le j3 p3 k3 a1 a2
      omega
end FL.L
set_option maxRecDepth 100000
set_option maxHeartbeats 1000000
noncomputable section
namespace FL.L
open PySem PySem.Spec PyProof.Rows L2 FL
/-- put in where it keeps the falling order -/
def insR (x : Rat) (l : List Rat) : List Rat := l.take (l.filter fun a => !decide (a < x)).length ++ [x] ++ l.drop (l.filter fun a => !decide (a < x)).length
theorem filter_desc {x : Rat} : ∀ {l : List Rat}, Desc l → (∀ a ∈ l.take (l.filter fun a => !decide (a < x)).length, x ≤ a) ∧ (∀ a ∈ l.drop (l.filter fun a => !decide (a < x)).length, a ≤ x)
  | [], _ => ⟨by simp, by simp⟩
  | y :: l, h => by
    obtain ⟨h1, h2⟩ := List.pairwise_cons.mp h
    obtain ⟨i1, i2⟩ := filter_desc (x := x) h2
    by_cases c : y < x
    · have none : (y :: l).filter (fun a => !decide (a < x)) = [] := by
        rw [List.filter_eq_nil_iff]
        intro a ha
        have : a < x := by
          rcases List.mem_cons.mp ha with z | z
          · rw [z]; exact c
          · have := h1 a z; grind
        simp [this]
      rw [none]
      refine ⟨by simp, fun a ha => ?_⟩
      rcases List.mem_cons.mp (show a ∈ y :: l from ha) with z | z
      · rw [z]; exact Rat.le_of_lt c
      · have := h1 a z; grind
    · have e : (y :: l).filter (fun a => !decide (a < x)) = y :: l.filter (fun a => !decide (a < x)) := by
        rw [List.filter_cons, if_pos (by simp [c])]
      rw [e]
      refine ⟨fun a ha => ?_, fun a ha => ?_⟩
      · rw [List.length_cons, List.take_succ_cons] at ha
        rcases List.mem_cons.mp ha with z | z
        · rw [z]; exact Rat.not_lt.mp c
        · exact i1 a z
      · rw [List.length_cons, List.drop_succ_cons] at ha
        exact i2 a ha
theorem insR_desc {x : Rat} {l : List Rat} (h : Desc l) : Desc (insR x l) := by
  obtain ⟨h1, h2⟩ := filter_desc (x := x) h
  unfold insR
  generalize (l.filter fun a => !decide (a < x)).length = k at *
  rw [List.append_assoc]
  refine List.pairwise_append.mpr ⟨h.sublist (List.take_sublist _ _), List.pairwise_cons.mpr ⟨fun a ha => h2 a ha, h.sublist (List.drop_sublist _ _)⟩, fun a ha b hb => ?_⟩
  rcases List.mem_cons.mp (show b ∈ x :: l.drop k from hb) with z | z
  · rw [z]; exact h1 a ha
  · exact Rat.le_trans (h2 b z) (h1 a ha)
theorem insR_len (x : Rat) (l : List Rat) : (insR x l).length = l.length + 1 := by
  unfold insR
  have := List.length_filter_le (fun a => !decide (a < x)) l
  simp; omega
theorem insR_mem {x y : Rat} {l : List Rat} (h : y ∈ insR x l) : y = x ∨ y ∈ l := by
  unfold insR at h
  rcases List.mem_append.mp h with z | z
  · rcases List.mem_append.mp z with z | z
    · exact .inr (List.mem_of_mem_take z)
    · exact .inl (List.mem_singleton.mp z)
  · exact .inr (List.mem_of_mem_drop z)
theorem wp_row {t : Tape} {K : D × Tape → Prop} (ht : TOk t) (k : ∀ (a : Rat) (rs : List Rat) (t' : Tape), RB 6 a rs → Desc rs → rs.length ≤ 4 → TOk t' → K (rwD a rs, t')) : wp (F_law_row [.tape] t) K := by
  have vr : ∀ q, rD q = vD (some q) := fun _ => rfl
  simp_all! [F_law_row, m_law_row]
  refine wp_draw ht (by decide) (by decide) fun n t1 hn0 hn1 ht1 => ?_
  obtain ⟨n, rfl⟩ : ∃ m : Nat, n = m := ⟨n.toNat, by omega⟩
  have hr := range1 (n := n) (by omega)
  simp_all! [hr]
  refine wp_forR _ (fun i ρ t2 => TOk t2 ∧ ∃ l x2 x3 x4, ρ = [some .tape, some (.lst (l.map rD)), x2, x3, x4, none, none] ∧ Desc l ∧ (∀ x ∈ l, Bd 6 6 x) ∧ l.length = i) ⟨ht1, [], _, _, _, rfl, .nil, by simp, rfl⟩ (fun i ρ t2 hi ⟨ht2, l, x2, x3, x4, hρ, hd, hb, hl⟩ => ?_) (fun ρ t2 ⟨ht2, l, x2, x3, x4, hρ, hd, hb, hl⟩ => ?_)
  · subst hρ
    simp_all! []
    refine wp_num ht2 fun x t3 hx ht3 => ?_
    simp_all! [pln_rD]
    refine wp_lcF l rD rD (fun a => !decide (a < x)) (fun a ha => ?_) ?_
    · have lb := law_below_ev (V0.some (r0b (hb a ha) (by decide))) (V0.some (r0b hx (by decide))) t3
      rw [vless_some, ← vr, ← vr] at lb
      by_cases c : a < x
      · rw [decide_eq_true c] at lb
        simp_all! [lb, c]
        intro _; trivial
      · rw [decide_eq_false c] at lb
        simp_all! [lb, c]
        intro _; trivial
    · obtain ⟨q, hq⟩ : ∃ q, q = (l.filter fun a => !decide (a < x)).length := ⟨_, rfl⟩
      have hql := List.length_filter_le (fun a => !decide (a < x)) l
      rw [← hq] at hql
      have gl : gLen [.lst ((l.filter fun a => !decide (a < x)).map rD)] = some (.int q) := by rw [gLen_lst, List.length_map, hq]
      have c1 : oCat (.lst ((l.map rD).take q)) (.lst [rD x]) = some (.lst ((l.map rD).take q ++ [rD x])) := oCat_ev (by simp; omega)
      have c2 : oCat (.lst ((l.map rD).take q ++ [rD x])) (.lst ((l.map rD).drop q)) = some (.lst ((insR x l).map rD)) := by
        rw [oCat_ev (by simp; omega)]
        unfold insR
        rw [← hq, List.map_append, List.map_append, List.map_take, List.map_drop]; rfl
      have n1 := insR_desc (x := x) hd
      have n2 : ∀ y ∈ insR x l, Bd 6 6 y := fun y hy => (insR_mem hy).elim (fun e => e ▸ hx) (hb y)
      have n3 : (insR x l).length = i + 1 := by rw [insR_len, hl]
      have sf : sml (l.filter fun a => !decide (a < x)).length = true := sml_of (by rw [← hq]; omega)
      have sf2 : q ≤ 100000 := by omega
      clear hd hb
      simp_all! [sf, sf2, gl, oSlL, cut_take, cut_drop, c1, c2]
      exact ⟨ht3, insR x l, _, _, _, rfl, n1, n2, n3⟩
  · subst hρ
    have itm : dItems (.lst (l.map rD)) = some (l.map rD) := rfl
    simp_all! [itm]
    refine wp_num ht2 fun a t3 ha ht3 => ?_
    have r0 : D.tup [rD a] = rwD a [] := by
      show _ = D.tup [rD (a + psum [] 0)]
      rw [psum_zero, show a + 0 = a by grind]
    simp_all! [pln_rD, r0, itm]
    refine wp_forM l rD (fun i ρ t' => t' = t3 ∧ ∃ x3, ρ = [some .tape, some (.lst (l.map rD)), x2, x3, x4, some (rwD a (l.take i)), none]) ⟨rfl, _, rfl⟩ (fun i x ρ t' hx ⟨ht', x3, hρ⟩ => ?_) (fun ρ t' ⟨ht', x3, hρ⟩ => ?_)
    · subst ht' hρ
      have hil : i < l.length := (List.getElem?_eq_some_iff.mp hx).1
      have tl : (l.take i).length = i := by simp; omega
      have lst : oIx (rwD a (l.take i)) (.int (-1)) = some (rD (a + psum (l.take i) i)) := by
        show atI ((List.range ((l.take i).length + 1)).map fun j => vD (rf a (l.take i) j)) (-1) = _
        rw [tl, List.range_succ, List.map_append]
        exact atI_last _ _
      have hxb := hb x (List.mem_of_getElem? hx)
      have bb : Bd 6 1200 (a + psum (l.take i) i) := (Bd.add (by decide) ha (psum_bd (by decide) (fun y hy => hb y (List.mem_of_mem_take hy)) i)).mono (by rw [tl]; omega)
      have lp := law_plus_ev (V0.some (r0b bb (by decide))) (V0.some (r0b hxb (by decide))) t'
      rw [show vplus (some (a + psum (l.take i) i)) (some x) = some (a + psum (l.take i) i + x) from rfl, ← vr, ← vr, ← vr] at lp
      have tk := take_succ hx
      have nx : oAdd (rwD a (l.take i)) (.tup [rD (a + psum (l.take i) i + x)]) = some (rwD a (l.take (i + 1))) := by
        show oAdd (.tup _) (.tup _) = _
        rw [oAdd_tups (by simp; omega), tk]
        refine congrArg (fun z => some (D.tup z)) ?_
        rw [show (l.take i ++ [x]).length + 1 = ((l.take i).length + 1) + 1 by simp, List.range_succ (n := (l.take i).length + 1), List.map_append]
        congr 1
        · refine List.map_congr_left fun j hj => ?_
          show vD (some (a + psum (l.take i) j)) = vD (some (a + psum (l.take i ++ [x]) j))
          rw [psum_append _ _ _ (by have := List.mem_range.mp hj; omega)]
        · show [_] = [vD (some (a + psum (l.take i ++ [x]) ((l.take i).length + 1)))]
          rw [psum_succ (l := l.take i ++ [x]) (n := (l.take i).length) (x := x) (by simp), psum_append _ _ _ (Nat.le_refl _), tl, vr]
          congr 3; grind
      clear tk
      simp_all! [lst, lp, pln_rD, nx]
      exact ⟨_, rfl⟩
    · subst ht' hρ
      rw [List.take_length]
      have fin := k a l t' ⟨ha, hb, by omega, by omega⟩ hd (by omega) ht3
      simp_all! []
      exact fin
end FL.L
set_option maxRecDepth 100000
set_option maxHeartbeats 1000000
noncomputable section
namespace FL.L
open PySem PySem.Spec PyProof.Rows L2 FL
theorem vtimes_some (g : Rat) (k : Nat) : vtimes (some g) (k : Int) = some (g * (k : Rat)) := by
  unfold vtimes
  by_cases c : (k : Int) = 0
  · rw [if_pos c]
    have : k = 0 := by omega
    subst this
    congr 1; grind
  · rw [if_neg c]; rfl
/-- the product's value at a place -/
theorem value_row {N : Nat} {a g : Rat} {rs : List Rat} (h : RB N a rs) (hg : Bd 6 6 g) (t : Tape) : ∃ v, F_polys_value [rwD a rs, rD g] t = some (vD v, t) ∧ SupOf (fun x => ∃ k, k ≤ rs.length ∧ x = some (a + psum rs k + g * (k : Rat))) v := by
  have hl := h.l
  have b : ∀ k : Nat, k ≤ rs.length → Bd 6 (k * 6) (g * (k : Rat)) := fun k _ => Bd.mulN (by decide) hg k
  have ve := value_ev (rwL a rs) (some g) t (by rw [rwL_len]; omega) (fun _ => rwL_last a rs) (V0.some (r0b hg (by decide))) fun k x hk => by
    obtain ⟨h1, h2⟩ := rwL_at hk
    rw [h2, vtimes_some]
    exact ⟨V0.some (r0b (h.at k) (by decide)), V0.some (r0b (b k h1) (by omega)), V0.some (r0b (Bd.add (by decide) (h.at k) (b k h1)) (by omega))⟩
  refine ⟨_, by rw [rwD_L]; exact ve, (vmaxL_none _).congr fun x => ⟨?_, ?_⟩⟩
  · rintro ⟨k, hk, hx⟩
    unfold pvals
    refine List.mem_map.mpr ⟨(some (a + psum rs k), k), List.mem_zipIdx_iff_getElem?.mpr (rwL_get a rs hk), ?_⟩
    rw [hx]
    show vplus _ (vtimes (some g) k) = _
    rw [vtimes_some]; rfl
  · intro hx
    unfold pvals at hx
    obtain ⟨⟨y, k⟩, hk, e⟩ := List.mem_map.mp hx
    obtain ⟨h1, h2⟩ := rwL_at (List.mem_zipIdx_iff_getElem?.mp hk)
    refine ⟨k, h1, ?_⟩
    rw [← e]
    show vplus y (vtimes (some g) k) = _
    rw [show y = some (a + psum rs k) from h2, vtimes_some]; rfl
end FL.L
set_option maxRecDepth 100000
set_option maxHeartbeats 4000000
namespace FL.K75a
open PySem PySem.Spec PyProof.Rows L2 FL FL.L
def topS (i : Nat) : Stmt := PySem.Challenge.pw_greatsums_k75_whole_rows_as_polynomials.main.body.getD i (.Pass ⟨0, 0, 0, 0⟩)
abbrev s_is_integer : Stmt := topS 7
abbrev N_is_integer : List Str := ["value"]
theorem sc_is_integer : FnScope N_is_integer ["value"] (defScope s_is_integer) := ⟨rfl, rfl, rfl, by decide +kernel, rfl, by decide +kernel, by decide +kernel⟩
abbrev s_divisor : Stmt := topS 9
abbrev N_divisor : List Str := ["one", "other"]
theorem sc_divisor : FnScope N_divisor ["one", "other"] (defScope s_divisor) := ⟨rfl, rfl, rfl, by decide +kernel, rfl, by decide +kernel, by decide +kernel⟩
abbrev s_is_ratio : Stmt := topS 8
abbrev N_is_ratio : List Str := ["value", "item"]
theorem sc_is_ratio : FnScope N_is_ratio ["value"] (defScope s_is_ratio) := ⟨rfl, rfl, rfl, by decide +kernel, rfl, by decide +kernel, by decide +kernel⟩
abbrev sc_is_ratio_1 : Scope := { kind := PySem.ScopeKind.function, names := [(".0", .local), ("item", .local), ("is_integer", .globalImplicit)], isGenerator := false, isCoroutine := false, more := [] }
abbrev s_make : Stmt := topS 10
abbrev N_make : List Str := ["above", "below", "common"]
theorem sc_make : FnScope N_make ["above", "below"] (defScope s_make) := ⟨rfl, rfl, rfl, by decide +kernel, rfl, by decide +kernel, by decide +kernel⟩
abbrev s_add : Stmt := topS 11
abbrev N_add : List Str := ["one", "other"]
theorem sc_add : FnScope N_add ["one", "other"] (defScope s_add) := ⟨rfl, rfl, rfl, by decide +kernel, rfl, by decide +kernel, by decide +kernel⟩
abbrev s_subtract : Stmt := topS 12
abbrev N_subtract : List Str := ["one", "other"]
theorem sc_subtract : FnScope N_subtract ["one", "other"] (defScope s_subtract) := ⟨rfl, rfl, rfl, by decide +kernel, rfl, by decide +kernel, by decide +kernel⟩
abbrev s_multiply : Stmt := topS 13
abbrev N_multiply : List Str := ["one", "other"]
theorem sc_multiply : FnScope N_multiply ["one", "other"] (defScope s_multiply) := ⟨rfl, rfl, rfl, by decide +kernel, rfl, by decide +kernel, by decide +kernel⟩
abbrev s_less : Stmt := topS 14
abbrev N_less : List Str := ["one", "other"]
theorem sc_less : FnScope N_less ["one", "other"] (defScope s_less) := ⟨rfl, rfl, rfl, by decide +kernel, rfl, by decide +kernel, by decide +kernel⟩
abbrev s_is_value : Stmt := topS 16
abbrev N_is_value : List Str := ["value"]
theorem sc_is_value : FnScope N_is_value ["value"] (defScope s_is_value) := ⟨rfl, rfl, rfl, by decide +kernel, rfl, by decide +kernel, by decide +kernel⟩
abbrev s_is_less : Stmt := topS 17
abbrev N_is_less : List Str := ["one", "other"]
theorem sc_is_less : FnScope N_is_less ["one", "other"] (defScope s_is_less) := ⟨rfl, rfl, rfl, by decide +kernel, rfl, by decide +kernel, by decide +kernel⟩
abbrev s_greater : Stmt := topS 18
abbrev N_greater : List Str := ["one", "other"]
theorem sc_greater : FnScope N_greater ["one", "other"] (defScope s_greater) := ⟨rfl, rfl, rfl, by decide +kernel, rfl, by decide +kernel, by decide +kernel⟩
abbrev s_greatest : Stmt := topS 19
abbrev N_greatest : List Str := ["values", "found", "value"]
theorem sc_greatest : FnScope N_greatest ["values"] (defScope s_greatest) := ⟨rfl, rfl, rfl, by decide +kernel, rfl, by decide +kernel, by decide +kernel⟩
abbrev s_plus : Stmt := topS 20
abbrev N_plus : List Str := ["one", "other"]
theorem sc_plus : FnScope N_plus ["one", "other"] (defScope s_plus) := ⟨rfl, rfl, rfl, by decide +kernel, rfl, by decide +kernel, by decide +kernel⟩
abbrev s_times : Stmt := topS 21
abbrev N_times : List Str := ["value", "number"]
theorem sc_times : FnScope N_times ["value", "number"] (defScope s_times) := ⟨rfl, rfl, rfl, by decide +kernel, rfl, by decide +kernel, by decide +kernel⟩
abbrev s_mean : Stmt := topS 22
abbrev N_mean : List Str := ["value", "count"]
theorem sc_mean : FnScope N_mean ["value", "count"] (defScope s_mean) := ⟨rfl, rfl, rfl, by decide +kernel, rfl, by decide +kernel, by decide +kernel⟩
abbrev s_steps : Stmt := topS 28
abbrev N_steps : List Str := ["row", "one", "other"]
theorem sc_steps : FnScope N_steps ["row"] (defScope s_steps) := ⟨rfl, rfl, rfl, by decide +kernel, rfl, by decide +kernel, by decide +kernel⟩
abbrev sc_steps_1 : Scope := { kind := PySem.ScopeKind.function, names := [(".0", .local), ("one", .local), ("other", .local), ("subtract", .globalImplicit)], isGenerator := false, isCoroutine := false, more := [] }
abbrev sc_steps_2 : Scope := { kind := PySem.ScopeKind.function, names := [(".0", .local), ("one", .local), ("other", .local), ("subtract", .globalImplicit)], isGenerator := false, isCoroutine := false, more := [] }
abbrev s_is_row : Stmt := topS 26
abbrev N_is_row : List Str := ["value", "rises", "item", "one", "other"]
theorem sc_is_row : FnScope N_is_row ["value"] (defScope s_is_row) := ⟨rfl, rfl, rfl, by decide +kernel, rfl, by decide +kernel, by decide +kernel⟩
abbrev sc_is_row_1 : Scope := { kind := PySem.ScopeKind.function, names := [(".0", .local), ("item", .local), ("is_ratio", .globalImplicit)], isGenerator := false, isCoroutine := false, more := [] }
abbrev sc_is_row_2 : Scope := { kind := PySem.ScopeKind.function, names := [(".0", .local), ("one", .local), ("other", .local), ("less", .globalImplicit)], isGenerator := false, isCoroutine := false, more := [] }
abbrev sc_is_row_3 : Scope := { kind := PySem.ScopeKind.function, names := [(".0", .local), ("one", .local), ("other", .local), ("less", .globalImplicit)], isGenerator := false, isCoroutine := false, more := [] }
abbrev s_check_row : Stmt := topS 27
abbrev N_check_row : List Str := ["value"]
theorem sc_check_row : FnScope N_check_row ["value"] (defScope s_check_row) := ⟨rfl, rfl, rfl, by decide +kernel, rfl, by decide +kernel, by decide +kernel⟩
abbrev s_summed : Stmt := topS 29
abbrev N_summed : List Str := ["one", "other", "found", "left", "right"]
theorem sc_summed : FnScope N_summed ["one", "other"] (defScope s_summed) := ⟨rfl, rfl, rfl, by decide +kernel, rfl, by decide +kernel, by decide +kernel⟩
abbrev s_shares : Stmt := topS 30
abbrev N_shares : List Str := ["rows", "count", "row", "found", "_", "best", "k", "gain"]
theorem sc_shares : FnScope N_shares ["rows", "count"] (defScope s_shares) := ⟨rfl, rfl, rfl, by decide +kernel, rfl, by decide +kernel, by decide +kernel⟩
abbrev sc_shares_1 : Scope := { kind := PySem.ScopeKind.function, names := [(".0", .local), ("row", .local), ("len", .globalImplicit)], isGenerator := false, isCoroutine := false, more := [] }
abbrev s_worth : Stmt := topS 31
abbrev N_worth : List Str := ["rows", "lot", "found", "row", "count"]
theorem sc_worth : FnScope N_worth ["rows", "lot"] (defScope s_worth) := ⟨rfl, rfl, rfl, by decide +kernel, rfl, by decide +kernel, by decide +kernel⟩
abbrev s_price : Stmt := topS 32
abbrev N_price : List Str := ["rows", "count", "lot", "used", "left", "low", "item", "row", "k"]
theorem sc_price : FnScope N_price ["rows", "count"] (defScope s_price) := ⟨rfl, rfl, rfl, by decide +kernel, rfl, by decide +kernel, by decide +kernel⟩
abbrev sc_price_1 : Scope := { kind := PySem.ScopeKind.function, names := [(".0", .local), ("row", .local), ("k", .local), ("subtract", .globalImplicit)], isGenerator := false, isCoroutine := false, more := [] }
abbrev sc_price_2 : Scope := { kind := PySem.ScopeKind.function, names := [(".0", .local), ("row", .local), ("k", .local), ("len", .globalImplicit), ("subtract", .globalImplicit)], isGenerator := false, isCoroutine := false, more := [] }
abbrev s_is_bend : Stmt := topS 34
abbrev N_is_bend : List Str := ["first", "middle", "last", "left", "right"]
theorem sc_is_bend : FnScope N_is_bend ["first", "middle", "last"] (defScope s_is_bend) := ⟨rfl, rfl, rfl, by decide +kernel, rfl, by decide +kernel, by decide +kernel⟩
abbrev s_hull : Stmt := topS 33
abbrev N_hull : List Str := ["row", "item", "corners", "place", "found", "low", "first", "high", "last", "rise", "k"]
theorem sc_hull : FnScope N_hull ["row"] (defScope s_hull) := ⟨rfl, rfl, rfl, by decide +kernel, rfl, by decide +kernel, by decide +kernel⟩
abbrev sc_hull_1 : Scope := { kind := PySem.ScopeKind.function, names := [(".0", .local), ("item", .local), ("is_ratio", .globalImplicit)], isGenerator := false, isCoroutine := false, more := [] }
abbrev sc_hull_2 : Scope := { kind := PySem.ScopeKind.function, names := [(".0", .local), ("k", .local), ("add", .globalImplicit), ("first", .cell), ("high", .cell), ("low", .cell), ("rise", .cell)], isGenerator := false, isCoroutine := false, more := [] }
abbrev s_is_poly : Stmt := topS 37
abbrev N_is_poly : List Str := ["value", "item"]
theorem sc_is_poly : FnScope N_is_poly ["value"] (defScope s_is_poly) := ⟨rfl, rfl, rfl, by decide +kernel, rfl, by decide +kernel, by decide +kernel⟩
abbrev sc_is_poly_1 : Scope := { kind := PySem.ScopeKind.function, names := [(".0", .local), ("item", .local), ("is_value", .globalImplicit)], isGenerator := false, isCoroutine := false, more := [] }
abbrev s_check_poly : Stmt := topS 38
abbrev N_check_poly : List Str := ["value"]
theorem sc_check_poly : FnScope N_check_poly ["value"] (defScope s_check_poly) := ⟨rfl, rfl, rfl, by decide +kernel, rfl, by decide +kernel, by decide +kernel⟩
abbrev s_product : Stmt := topS 39
abbrev N_product : List Str := ["one", "other", "found", "k", "left", "j", "right"]
theorem sc_product : FnScope N_product ["one", "other"] (defScope s_product) := ⟨rfl, rfl, rfl, by decide +kernel, rfl, by decide +kernel, by decide +kernel⟩
abbrev s_value : Stmt := topS 40
abbrev N_value : List Str := ["one", "place", "k", "item"]
theorem sc_value : FnScope N_value ["one", "place"] (defScope s_value) := ⟨rfl, rfl, rfl, by decide +kernel, rfl, by decide +kernel, by decide +kernel⟩
abbrev sc_value_1 : Scope := { kind := PySem.ScopeKind.function, names := [(".0", .local), ("k", .local), ("item", .local), ("plus", .globalImplicit), ("times", .globalImplicit), ("place", .cell)], isGenerator := false, isCoroutine := false, more := [] }
abbrev sc_value_2 : Scope := { kind := PySem.ScopeKind.function, names := [(".0", .local), ("k", .local), ("item", .local), ("plus", .globalImplicit), ("times", .globalImplicit), ("place", .cell)], isGenerator := false, isCoroutine := false, more := [] }
abbrev s_between : Stmt := topS 42
abbrev N_between : List Str := ["low", "first", "high", "last", "place"]
theorem sc_between : FnScope N_between ["low", "first", "high", "last", "place"] (defScope s_between) := ⟨rfl, rfl, rfl, by decide +kernel, rfl, by decide +kernel, by decide +kernel⟩
abbrev s_full : Stmt := topS 41
abbrev N_full : List Str := ["one", "k", "known", "found", "best", "low", "high", "item"]
theorem sc_full : FnScope N_full ["one"] (defScope s_full) := ⟨rfl, rfl, rfl, by decide +kernel, rfl, by decide +kernel, by decide +kernel⟩
abbrev sc_full_1 : Scope := { kind := PySem.ScopeKind.function, names := [(".0", .local), ("k", .local), ("item", .local)], isGenerator := false, isCoroutine := false, more := [] }
abbrev s_is_full : Stmt := topS 43
abbrev N_is_full : List Str := ["one"]
theorem sc_is_full : FnScope N_is_full ["one"] (defScope s_is_full) := ⟨rfl, rfl, rfl, by decide +kernel, rfl, by decide +kernel, by decide +kernel⟩
abbrev s_sorted_pairs : Stmt := topS 45
abbrev N_sorted_pairs : List Str := ["pairs", "found", "pair", "place", "one"]
theorem sc_sorted_pairs : FnScope N_sorted_pairs ["pairs"] (defScope s_sorted_pairs) := ⟨rfl, rfl, rfl, by decide +kernel, rfl, by decide +kernel, by decide +kernel⟩
abbrev sc_sorted_pairs_1 : Scope := { kind := PySem.ScopeKind.function, names := [(".0", .local), ("one", .local), ("is_less", .globalImplicit), ("pair", .cell)], isGenerator := false, isCoroutine := false, more := [] }
abbrev s_corners : Stmt := topS 44
abbrev N_corners : List Str := ["one", "best", "k", "low", "found", "place", "item"]
theorem sc_corners : FnScope N_corners ["one"] (defScope s_corners) := ⟨rfl, rfl, rfl, by decide +kernel, rfl, by decide +kernel, by decide +kernel⟩
abbrev sc_corners_1 : Scope := { kind := PySem.ScopeKind.function, names := [(".0", .local), ("k", .local), ("item", .local)], isGenerator := false, isCoroutine := false, more := [] }
abbrev s_from_corners : Stmt := topS 46
abbrev N_from_corners : List Str := ["lead", "pairs", "found", "place", "count", "_"]
theorem sc_from_corners : FnScope N_from_corners ["lead", "pairs"] (defScope s_from_corners) := ⟨rfl, rfl, rfl, by decide +kernel, rfl, by decide +kernel, by decide +kernel⟩
abbrev s__law_tape : Stmt := topS 48
abbrev N__law_tape : List Str := ["script", "seed", "cell"]
theorem sc__law_tape : FnScope N__law_tape ["script"] (defScope s__law_tape) := ⟨rfl, rfl, rfl, by decide +kernel, rfl, by decide +kernel, by decide +kernel⟩
abbrev s__law_draw : Stmt := topS 49
abbrev N__law_draw : List Str := ["tape", "many", "cells", "number"]
theorem sc__law_draw : FnScope N__law_draw ["tape", "many"] (defScope s__law_draw) := ⟨rfl, rfl, rfl, by decide +kernel, rfl, by decide +kernel, by decide +kernel⟩
abbrev s__law_pick : Stmt := topS 50
abbrev N__law_pick : List Str := ["tape", "row"]
theorem sc__law_pick : FnScope N__law_pick ["tape", "row"] (defScope s__law_pick) := ⟨rfl, rfl, rfl, by decide +kernel, rfl, by decide +kernel, by decide +kernel⟩
abbrev s__law_same : Stmt := topS 51
abbrev N__law_same : List Str := ["actual", "due", "k"]
theorem sc__law_same : FnScope N__law_same ["actual", "due"] (defScope s__law_same) := ⟨rfl, rfl, rfl, by decide +kernel, rfl, by decide +kernel, by decide +kernel⟩
abbrev sc__law_same_1 : Scope := { kind := PySem.ScopeKind.function, names := [(".0", .local), ("k", .local), ("_law_same", .globalImplicit), ("actual", .cell), ("due", .cell)], isGenerator := false, isCoroutine := false, more := [] }
abbrev sc__law_same_2 : Scope := { kind := PySem.ScopeKind.function, names := [(".0", .local), ("k", .local), ("_law_same", .globalImplicit), ("actual", .cell), ("due", .cell)], isGenerator := false, isCoroutine := false, more := [] }
abbrev s__law_frac : Stmt := topS 52
abbrev N__law_frac : List Str := ["above", "below", "one", "other"]
theorem sc__law_frac : FnScope N__law_frac ["above", "below"] (defScope s__law_frac) := ⟨rfl, rfl, rfl, by decide +kernel, rfl, by decide +kernel, by decide +kernel⟩
abbrev s__law_plus : Stmt := topS 53
abbrev N__law_plus : List Str := ["one", "other"]
theorem sc__law_plus : FnScope N__law_plus ["one", "other"] (defScope s__law_plus) := ⟨rfl, rfl, rfl, by decide +kernel, rfl, by decide +kernel, by decide +kernel⟩
abbrev s__law_minus : Stmt := topS 54
abbrev N__law_minus : List Str := ["one", "other"]
theorem sc__law_minus : FnScope N__law_minus ["one", "other"] (defScope s__law_minus) := ⟨rfl, rfl, rfl, by decide +kernel, rfl, by decide +kernel, by decide +kernel⟩
abbrev s__law_times : Stmt := topS 55
abbrev N__law_times : List Str := ["one", "count"]
theorem sc__law_times : FnScope N__law_times ["one", "count"] (defScope s__law_times) := ⟨rfl, rfl, rfl, by decide +kernel, rfl, by decide +kernel, by decide +kernel⟩
abbrev s__law_below : Stmt := topS 56
abbrev N__law_below : List Str := ["one", "other"]
theorem sc__law_below : FnScope N__law_below ["one", "other"] (defScope s__law_below) := ⟨rfl, rfl, rfl, by decide +kernel, rfl, by decide +kernel, by decide +kernel⟩
abbrev s__law_number : Stmt := topS 57
abbrev N__law_number : List Str := ["tape"]
theorem sc__law_number : FnScope N__law_number ["tape"] (defScope s__law_number) := ⟨rfl, rfl, rfl, by decide +kernel, rfl, by decide +kernel, by decide +kernel⟩
abbrev s__law_row : Stmt := topS 58
abbrev N__law_row : List Str := ["tape", "rises", "k", "rise", "place", "row", "one"]
theorem sc__law_row : FnScope N__law_row ["tape"] (defScope s__law_row) := ⟨rfl, rfl, rfl, by decide +kernel, rfl, by decide +kernel, by decide +kernel⟩
abbrev sc__law_row_1 : Scope := { kind := PySem.ScopeKind.function, names := [(".0", .local), ("one", .local), ("_law_below", .globalImplicit), ("rise", .cell)], isGenerator := false, isCoroutine := false, more := [] }
abbrev s__law_corners : Stmt := topS 59
abbrev N__law_corners : List Str := ["row", "found", "one", "other", "place"]
theorem sc__law_corners : FnScope N__law_corners ["row"] (defScope s__law_corners) := ⟨rfl, rfl, rfl, by decide +kernel, rfl, by decide +kernel, by decide +kernel⟩
abbrev s_law : Stmt := topS 60
abbrev N_law : List Str := ["script", "tape", "rows", "whole", "mixed", "row", "free", "count", "lot", "total", "number", "turn", "guess", "k"]
theorem sc_law : FnScope N_law ["script"] (defScope s_law) := ⟨rfl, rfl, rfl, by decide +kernel, rfl, by decide +kernel, by decide +kernel⟩
abbrev sc_law_1 : Scope := { kind := PySem.ScopeKind.function, names := [(".0", .local), ("k", .local), ("_law_row", .globalImplicit), ("tape", .cell)], isGenerator := false, isCoroutine := false, more := [] }
abbrev sc_law_2 : Scope := { kind := PySem.ScopeKind.function, names := [(".0", .local), ("k", .local), ("_law_number", .globalImplicit), ("tape", .cell)], isGenerator := false, isCoroutine := false, more := [] }
/-- what the top has left -/
structure Tx (K : PySem.W.Frag) (mg : Str → Option Value) where
  f_is_integer : Addr
  d_is_integer : FuncData
  t_is_integer : Fun K "is_integer" "is_integer" s_is_integer f_is_integer d_is_integer
  g_is_integer : mg "is_integer" = some (.ref f_is_integer)
  b_is_integer : Binds K d_is_integer ["value"] []
  f_divisor : Addr
  d_divisor : FuncData
  t_divisor : Fun K "divisor" "divisor" s_divisor f_divisor d_divisor
  g_divisor : mg "divisor" = some (.ref f_divisor)
  b_divisor : Binds K d_divisor ["one", "other"] []
  f_is_ratio : Addr
  d_is_ratio : FuncData
  t_is_ratio : Fun K "is_ratio" "is_ratio" s_is_ratio f_is_ratio d_is_ratio
  g_is_ratio : mg "is_ratio" = some (.ref f_is_ratio)
  b_is_ratio : Binds K d_is_ratio ["value"] []
  f_make : Addr
  d_make : FuncData
  t_make : Fun K "make" "make" s_make f_make d_make
  g_make : mg "make" = some (.ref f_make)
  b_make : Binds K d_make ["above", "below"] []
  f_add : Addr
  d_add : FuncData
  t_add : Fun K "add" "add" s_add f_add d_add
  g_add : mg "add" = some (.ref f_add)
  b_add : Binds K d_add ["one", "other"] []
  f_subtract : Addr
  d_subtract : FuncData
  t_subtract : Fun K "subtract" "subtract" s_subtract f_subtract d_subtract
  g_subtract : mg "subtract" = some (.ref f_subtract)
  b_subtract : Binds K d_subtract ["one", "other"] []
  f_multiply : Addr
  d_multiply : FuncData
  t_multiply : Fun K "multiply" "multiply" s_multiply f_multiply d_multiply
  g_multiply : mg "multiply" = some (.ref f_multiply)
  b_multiply : Binds K d_multiply ["one", "other"] []
  f_less : Addr
  d_less : FuncData
  t_less : Fun K "less" "less" s_less f_less d_less
  g_less : mg "less" = some (.ref f_less)
  b_less : Binds K d_less ["one", "other"] []
  f_is_value : Addr
  d_is_value : FuncData
  t_is_value : Fun K "is_value" "is_value" s_is_value f_is_value d_is_value
  g_is_value : mg "is_value" = some (.ref f_is_value)
  b_is_value : Binds K d_is_value ["value"] []
  f_is_less : Addr
  d_is_less : FuncData
  t_is_less : Fun K "is_less" "is_less" s_is_less f_is_less d_is_less
  g_is_less : mg "is_less" = some (.ref f_is_less)
  b_is_less : Binds K d_is_less ["one", "other"] []
  f_greater : Addr
  d_greater : FuncData
  t_greater : Fun K "greater" "greater" s_greater f_greater d_greater
  g_greater : mg "greater" = some (.ref f_greater)
  b_greater : Binds K d_greater ["one", "other"] []
  f_greatest : Addr
  d_greatest : FuncData
  t_greatest : Fun K "greatest" "greatest" s_greatest f_greatest d_greatest
  g_greatest : mg "greatest" = some (.ref f_greatest)
  b_greatest : Binds K d_greatest ["values"] []
  f_plus : Addr
  d_plus : FuncData
  t_plus : Fun K "plus" "plus" s_plus f_plus d_plus
  g_plus : mg "plus" = some (.ref f_plus)
  b_plus : Binds K d_plus ["one", "other"] []
  f_times : Addr
  d_times : FuncData
  t_times : Fun K "times" "times" s_times f_times d_times
  g_times : mg "times" = some (.ref f_times)
  b_times : Binds K d_times ["value", "number"] []
  f_mean : Addr
  d_mean : FuncData
  t_mean : Fun K "mean" "mean" s_mean f_mean d_mean
  g_mean : mg "mean" = some (.ref f_mean)
  b_mean : Binds K d_mean ["value", "count"] []
  f_steps : Addr
  d_steps : FuncData
  t_steps : Fun K "steps" "steps" s_steps f_steps d_steps
  g_steps : mg "steps" = some (.ref f_steps)
  b_steps : Binds K d_steps ["row"] []
  f_is_row : Addr
  d_is_row : FuncData
  t_is_row : Fun K "is_row" "is_row" s_is_row f_is_row d_is_row
  g_is_row : mg "is_row" = some (.ref f_is_row)
  b_is_row : Binds K d_is_row ["value"] []
  f_check_row : Addr
  d_check_row : FuncData
  t_check_row : Fun K "check_row" "check_row" s_check_row f_check_row d_check_row
  g_check_row : mg "check_row" = some (.ref f_check_row)
  b_check_row : Binds K d_check_row ["value"] []
  f_summed : Addr
  d_summed : FuncData
  t_summed : Fun K "summed" "summed" s_summed f_summed d_summed
  g_summed : mg "summed" = some (.ref f_summed)
  b_summed : Binds K d_summed ["one", "other"] []
  f_shares : Addr
  d_shares : FuncData
  t_shares : Fun K "shares" "shares" s_shares f_shares d_shares
  g_shares : mg "shares" = some (.ref f_shares)
  b_shares : Binds K d_shares ["rows", "count"] []
  f_worth : Addr
  d_worth : FuncData
  t_worth : Fun K "worth" "worth" s_worth f_worth d_worth
  g_worth : mg "worth" = some (.ref f_worth)
  b_worth : Binds K d_worth ["rows", "lot"] []
  f_price : Addr
  d_price : FuncData
  t_price : Fun K "price" "price" s_price f_price d_price
  g_price : mg "price" = some (.ref f_price)
  b_price : Binds K d_price ["rows", "count"] []
  f_is_bend : Addr
  d_is_bend : FuncData
  t_is_bend : Fun K "is_bend" "is_bend" s_is_bend f_is_bend d_is_bend
  g_is_bend : mg "is_bend" = some (.ref f_is_bend)
  b_is_bend : Binds K d_is_bend ["first", "middle", "last"] []
  f_hull : Addr
  d_hull : FuncData
  t_hull : Fun K "hull" "hull" s_hull f_hull d_hull
  g_hull : mg "hull" = some (.ref f_hull)
  b_hull : Binds K d_hull ["row"] []
  f_is_poly : Addr
  d_is_poly : FuncData
  t_is_poly : Fun K "is_poly" "is_poly" s_is_poly f_is_poly d_is_poly
  g_is_poly : mg "is_poly" = some (.ref f_is_poly)
  b_is_poly : Binds K d_is_poly ["value"] []
  f_check_poly : Addr
  d_check_poly : FuncData
  t_check_poly : Fun K "check_poly" "check_poly" s_check_poly f_check_poly d_check_poly
  g_check_poly : mg "check_poly" = some (.ref f_check_poly)
  b_check_poly : Binds K d_check_poly ["value"] []
  f_product : Addr
  d_product : FuncData
  t_product : Fun K "product" "product" s_product f_product d_product
  g_product : mg "product" = some (.ref f_product)
  b_product : Binds K d_product ["one", "other"] []
  f_value : Addr
  d_value : FuncData
  t_value : Fun K "value" "value" s_value f_value d_value
  g_value : mg "value" = some (.ref f_value)
  b_value : Binds K d_value ["one", "place"] []
  f_between : Addr
  d_between : FuncData
  t_between : Fun K "between" "between" s_between f_between d_between
  g_between : mg "between" = some (.ref f_between)
  b_between : Binds K d_between ["low", "first", "high", "last", "place"] []
  f_full : Addr
  d_full : FuncData
  t_full : Fun K "full" "full" s_full f_full d_full
  g_full : mg "full" = some (.ref f_full)
  b_full : Binds K d_full ["one"] []
  f_is_full : Addr
  d_is_full : FuncData
  t_is_full : Fun K "is_full" "is_full" s_is_full f_is_full d_is_full
  g_is_full : mg "is_full" = some (.ref f_is_full)
  b_is_full : Binds K d_is_full ["one"] []
  f_sorted_pairs : Addr
  d_sorted_pairs : FuncData
  t_sorted_pairs : Fun K "sorted_pairs" "sorted_pairs" s_sorted_pairs f_sorted_pairs d_sorted_pairs
  g_sorted_pairs : mg "sorted_pairs" = some (.ref f_sorted_pairs)
  b_sorted_pairs : Binds K d_sorted_pairs ["pairs"] []
  f_corners : Addr
  d_corners : FuncData
  t_corners : Fun K "corners" "corners" s_corners f_corners d_corners
  g_corners : mg "corners" = some (.ref f_corners)
  b_corners : Binds K d_corners ["one"] []
  f_from_corners : Addr
  d_from_corners : FuncData
  t_from_corners : Fun K "from_corners" "from_corners" s_from_corners f_from_corners d_from_corners
  g_from_corners : mg "from_corners" = some (.ref f_from_corners)
  b_from_corners : Binds K d_from_corners ["lead", "pairs"] []
  f__law_tape : Addr
  d__law_tape : FuncData
  t__law_tape : Fun K "_law_tape" "_law_tape" s__law_tape f__law_tape d__law_tape
  g__law_tape : mg "_law_tape" = some (.ref f__law_tape)
  b__law_tape : Binds K d__law_tape ["script"] []
  f__law_draw : Addr
  d__law_draw : FuncData
  t__law_draw : Fun K "_law_draw" "_law_draw" s__law_draw f__law_draw d__law_draw
  g__law_draw : mg "_law_draw" = some (.ref f__law_draw)
  b__law_draw : Binds K d__law_draw ["tape", "many"] []
  f__law_pick : Addr
  d__law_pick : FuncData
  t__law_pick : Fun K "_law_pick" "_law_pick" s__law_pick f__law_pick d__law_pick
  g__law_pick : mg "_law_pick" = some (.ref f__law_pick)
  b__law_pick : Binds K d__law_pick ["tape", "row"] []
  f__law_same : Addr
  d__law_same : FuncData
  t__law_same : Fun K "_law_same" "_law_same" s__law_same f__law_same d__law_same
  g__law_same : mg "_law_same" = some (.ref f__law_same)
  b__law_same : Binds K d__law_same ["actual", "due"] []
  f__law_frac : Addr
  d__law_frac : FuncData
  t__law_frac : Fun K "_law_frac" "_law_frac" s__law_frac f__law_frac d__law_frac
  g__law_frac : mg "_law_frac" = some (.ref f__law_frac)
  b__law_frac : Binds K d__law_frac ["above", "below"] []
  f__law_plus : Addr
  d__law_plus : FuncData
  t__law_plus : Fun K "_law_plus" "_law_plus" s__law_plus f__law_plus d__law_plus
  g__law_plus : mg "_law_plus" = some (.ref f__law_plus)
  b__law_plus : Binds K d__law_plus ["one", "other"] []
  f__law_minus : Addr
  d__law_minus : FuncData
  t__law_minus : Fun K "_law_minus" "_law_minus" s__law_minus f__law_minus d__law_minus
  g__law_minus : mg "_law_minus" = some (.ref f__law_minus)
  b__law_minus : Binds K d__law_minus ["one", "other"] []
  f__law_times : Addr
  d__law_times : FuncData
  t__law_times : Fun K "_law_times" "_law_times" s__law_times f__law_times d__law_times
  g__law_times : mg "_law_times" = some (.ref f__law_times)
  b__law_times : Binds K d__law_times ["one", "count"] []
  f__law_below : Addr
  d__law_below : FuncData
  t__law_below : Fun K "_law_below" "_law_below" s__law_below f__law_below d__law_below
  g__law_below : mg "_law_below" = some (.ref f__law_below)
  b__law_below : Binds K d__law_below ["one", "other"] []
  f__law_number : Addr
  d__law_number : FuncData
  t__law_number : Fun K "_law_number" "_law_number" s__law_number f__law_number d__law_number
  g__law_number : mg "_law_number" = some (.ref f__law_number)
  b__law_number : Binds K d__law_number ["tape"] []
  f__law_row : Addr
  d__law_row : FuncData
  t__law_row : Fun K "_law_row" "_law_row" s__law_row f__law_row d__law_row
  g__law_row : mg "_law_row" = some (.ref f__law_row)
  b__law_row : Binds K d__law_row ["tape"] []
  f__law_corners : Addr
  d__law_corners : FuncData
  t__law_corners : Fun K "_law_corners" "_law_corners" s__law_corners f__law_corners d__law_corners
  g__law_corners : mg "_law_corners" = some (.ref f__law_corners)
  b__law_corners : Binds K d__law_corners ["row"] []
  f_law : Addr
  d_law : FuncData
  t_law : Fun K "law" "law" s_law f_law d_law
  g_law : mg "law" = some (.ref f_law)
  b_law : Binds K d_law ["script"] []
  z_abs : mg "abs" = none
  z_all : mg "all" = none
  z_any : mg "any" = none
  z_bool : mg "bool" = none
  z_enumerate : mg "enumerate" = none
  z_int : mg "int" = none
  z_isinstance : mg "isinstance" = none
  z_len : mg "len" = none
  z_range : mg "range" = none
  z_str : mg "str" = none
  z_sum : mg "sum" = none
  z_tuple : mg "tuple" = none
  z_zip : mg "zip" = none
  c_MOST_DEGREE : GC K mg "MOST_DEGREE" d_polys_MOST_DEGREE
  c_MOST_ITEMS : GC K mg "MOST_ITEMS" d_concave_MOST_ITEMS
  c_MOST_ROWS : GC K mg "MOST_ROWS" d_concave_MOST_ROWS
  c_ZERO : GC K mg "ZERO" d_ratios_ZERO
section
variable {P : Program} {w : World} {K : PySem.W.Frag} {mg : Str → Option Value} {base : Heap}
theorem ok_is_integer (T : Tx K mg) : FnOk P w K mg base CX0 1 T.f_is_integer T.d_is_integer ["value"] (spD K 1 0 F_ratios_is_integer) :=
  fn_ok (N := N_is_integer) (fl0 := [0]) T.t_is_integer sc_is_integer (fun cdv A outer s H E tp B hr => ⟨[0], (fss_one (fs_ret (fe_and (fe_isi "int" rfl T.z_isinstance rfl T.z_int boot_int' (fe_var 0) (.inl rfl)) (fe_one (fe_not (fe_isi "bool" rfl T.z_isinstance rfl T.z_bool boot_bool' (fe_var 0) (.inr (.inl rfl))))))))⟩)
theorem ok_divisor (T : Tx K mg) : FnOk P w K mg base CX0 1 T.f_divisor T.d_divisor ["one", "other"] (spD K 2 0 F_ratios_divisor) :=
  fn_ok (N := N_divisor) (fl0 := [0, 0]) T.t_divisor sc_divisor (fun cdv A outer s H E tp B hr => ⟨[0, 0], (fss_cons (fl1 := [0, 0]) (fs_par2 (fl' := [0, 0]) 0 1 (n1 := 0) (n2 := 0) rfl sc_divisor.nd (fe_callB call_abs cd_abs rfl T.z_abs boot_abs' (fa_cons (FE.brw (fe_var 0)) fa_nil)) (fe_callB call_abs cd_abs rfl T.z_abs boot_abs' (fa_cons (FE.brw (fe_var 1)) fa_nil)) (by rfl)) (fss_cons (fl1 := [0, 0]) (fs_while (fun ρ _ => match ρ[1]? with | some (some (D.int o)) => o.toNat + 1 | _ => 0) PassesOwn.never (ft_cmp op_gt od_gt (FE.brw (fe_var 1)) (FE.brw fe_int)) (fss_one (fs_par2 (fl' := [0, 0]) 0 1 (n1 := 0) (n2 := 0) rfl sc_divisor.nd (fe_var 1) (fe_op op_mod od_mod (FE.brw (fe_var 0)) (FE.brw (fe_var 1))) (by rfl)))) (fss_one (fs_ret (fe_var 0)))))⟩)
theorem ok_is_ratio (T : Tx K mg) : FnOk P w K mg base CX0 2 T.f_is_ratio T.d_is_ratio ["value"] (spD K 1 0 F_ratios_is_ratio) :=
  fn_ok (N := N_is_ratio) (fl0 := [0, 0]) T.t_is_ratio sc_is_ratio (fun cdv A outer s H E tp B hr => ⟨[0, 0], (fss_cons (fl1 := [0, 0]) (fs_if (FW.ft (fw_or (ft_not (ft_val (fe_isi "tuple" rfl T.z_isinstance rfl T.z_tuple boot_tuple' (fe_var 0) (.inr (.inr (.inl rfl)))))) (fw_or (ft_cmp (op_neD hr.units) od_ne (FE.brw (fe_callB cr_lenA cd_len rfl T.z_len boot_len' (fa_cons (FE.brw (fe_var 0)) fa_nil))) (FE.brw fe_int)) (fw_or1 (ft_not (ft_val (fe_callB (cr_all rfl) cd_all rfl T.z_all boot_all' (fa_cons (FE.brw (fe_lc (own := [("item", 1)]) (ws := [1]) (fl1 := [0, 0]) (n := 0) rfl sc_is_ratio.nd (fi_any (fe_var 0)) (blkOk_by (N := N_is_ratio) (sc := (defScope s_is_ratio)) (by decide +kernel)) (fun _ _ _ _ _ _ => (fg_name (fl' := [0, 0]) 1 sc_is_ratio.nd)) (fun _ _ _ _ _ _ => fts_nil) (fun _ _ _ _ _ _ => (fe_call (ok_is_integer T) (hr.mono (by omega)) rfl T.g_is_integer T.t_is_integer.kp T.b_is_integer pass0 (fa_cons (FE.brw (fe_var 1)) fa_nil))) (by decide) (by decide))) fa_nil)))))))) (fss_one (fs_ret fe_bl)) fss_nil) (fss_one (fs_ret (fe_and (fe_cmp op_gt od_gt (FE.brw (fe_ix (FE.l0 (fe_var 0)) (FE.brw fe_int))) (FE.brw fe_int)) (fe_one (fe_cmp (op_eqD hr.units) od_eq (FE.brw (fe_call (ok_divisor T) (hr.mono (by omega)) rfl T.g_divisor T.t_divisor.kp T.b_divisor pass0 (fa_cons (FE.brw (fe_ix (FE.l0 (fe_var 0)) (FE.brw fe_int))) (fa_cons (FE.brw (fe_ix (FE.l0 (fe_var 0)) (FE.brw fe_int))) fa_nil)))) (FE.brw fe_int)))))))⟩)
theorem ok_make (T : Tx K mg) : FnOk P w K mg base CX0 2 T.f_make T.d_make ["above", "below"] (spD K 2 0 F_ratios_make) :=
  fn_ok (N := N_make) (fl0 := [0, 0, 0]) T.t_make sc_make (fun cdv A outer s H E tp B hr => ⟨[0, 0, 0], (fss_cons (fl1 := [0, 0, 0]) (fs_if (ft_cmp (op_eqD hr.units) od_eq (FE.brw (fe_var 1)) (FE.brw fe_int)) (fss_one fs_never) fss_nil) (fss_cons (fl1 := [0, 0, 0]) (fs_set (fl' := [0, 0, 0]) 2 (n := 0) sc_make.nd (fe_call (ok_divisor T) (hr.mono (by omega)) rfl T.g_divisor T.t_divisor.kp T.b_divisor pass0 (fa_cons (FE.brw (fe_var 0)) (fa_cons (FE.brw (fe_var 1)) fa_nil)))) (fss_cons (fl1 := [0, 0, 0]) (fs_if (ft_cmp op_lt od_lt (FE.brw (fe_var 1)) (FE.brw fe_int)) (fss_one (fs_set (fl' := [0, 0, 0]) 2 (n := 0) sc_make.nd (fe_neg (fe_var 2)))) fss_nil) (fss_one (fs_ret (fe_tup (fa_cons (fe_op op_divA od_div (FE.brw (fe_var 0)) (FE.brw (fe_var 2))) (fa_cons (fe_op op_divA od_div (FE.brw (fe_var 1)) (FE.brw (fe_var 2))) fa_nil))))))))⟩)
theorem ok_add (T : Tx K mg) : FnOk P w K mg base CX0 3 T.f_add T.d_add ["one", "other"] (spD K 2 0 F_ratios_add) :=
  fn_ok (N := N_add) (fl0 := [0, 0]) T.t_add sc_add (fun cdv A outer s H E tp B hr => ⟨[0, 0], (fss_one (fs_ret (fe_call (ok_make T) (hr.mono (by omega)) rfl T.g_make T.t_make.kp T.b_make pass0 (fa_cons (FE.brw (fe_op op_addA od_add (FE.l0 (fe_op op_mulA od_mul (FE.l0 (fe_ix (FE.l0 (fe_var 0)) (FE.brw fe_int))) (FE.brw (fe_ix (FE.l0 (fe_var 1)) (FE.brw fe_int))))) (FE.l0 (fe_op op_mulA od_mul (FE.l0 (fe_ix (FE.l0 (fe_var 1)) (FE.brw fe_int))) (FE.brw (fe_ix (FE.l0 (fe_var 0)) (FE.brw fe_int))))))) (fa_cons (FE.brw (fe_op op_mulA od_mul (FE.l0 (fe_ix (FE.l0 (fe_var 0)) (FE.brw fe_int))) (FE.brw (fe_ix (FE.l0 (fe_var 1)) (FE.brw fe_int))))) fa_nil)))))⟩)
theorem ok_subtract (T : Tx K mg) : FnOk P w K mg base CX0 3 T.f_subtract T.d_subtract ["one", "other"] (spD K 2 0 F_ratios_subtract) :=
  fn_ok (N := N_subtract) (fl0 := [0, 0]) T.t_subtract sc_subtract (fun cdv A outer s H E tp B hr => ⟨[0, 0], (fss_one (fs_ret (fe_call (ok_make T) (hr.mono (by omega)) rfl T.g_make T.t_make.kp T.b_make pass0 (fa_cons (FE.brw (fe_op op_sub od_sub (FE.brw (fe_op op_mulA od_mul (FE.l0 (fe_ix (FE.l0 (fe_var 0)) (FE.brw fe_int))) (FE.brw (fe_ix (FE.l0 (fe_var 1)) (FE.brw fe_int))))) (FE.brw (fe_op op_mulA od_mul (FE.l0 (fe_ix (FE.l0 (fe_var 1)) (FE.brw fe_int))) (FE.brw (fe_ix (FE.l0 (fe_var 0)) (FE.brw fe_int))))))) (fa_cons (FE.brw (fe_op op_mulA od_mul (FE.l0 (fe_ix (FE.l0 (fe_var 0)) (FE.brw fe_int))) (FE.brw (fe_ix (FE.l0 (fe_var 1)) (FE.brw fe_int))))) fa_nil)))))⟩)
theorem ok_multiply (T : Tx K mg) : FnOk P w K mg base CX0 3 T.f_multiply T.d_multiply ["one", "other"] (spD K 2 0 F_ratios_multiply) :=
  fn_ok (N := N_multiply) (fl0 := [0, 0]) T.t_multiply sc_multiply (fun cdv A outer s H E tp B hr => ⟨[0, 0], (fss_one (fs_ret (fe_call (ok_make T) (hr.mono (by omega)) rfl T.g_make T.t_make.kp T.b_make pass0 (fa_cons (FE.brw (fe_op op_mulA od_mul (FE.l0 (fe_ix (FE.l0 (fe_var 0)) (FE.brw fe_int))) (FE.brw (fe_ix (FE.l0 (fe_var 1)) (FE.brw fe_int))))) (fa_cons (FE.brw (fe_op op_mulA od_mul (FE.l0 (fe_ix (FE.l0 (fe_var 0)) (FE.brw fe_int))) (FE.brw (fe_ix (FE.l0 (fe_var 1)) (FE.brw fe_int))))) fa_nil)))))⟩)
theorem ok_less (T : Tx K mg) : FnOk P w K mg base CX0 1 T.f_less T.d_less ["one", "other"] (spD K 2 0 F_ratios_less) :=
  fn_ok (N := N_less) (fl0 := [0, 0]) T.t_less sc_less (fun cdv A outer s H E tp B hr => ⟨[0, 0], (fss_one (fs_ret (fe_cmp op_lt od_lt (FE.brw (fe_op op_mulA od_mul (FE.l0 (fe_ix (FE.l0 (fe_var 0)) (FE.brw fe_int))) (FE.brw (fe_ix (FE.l0 (fe_var 1)) (FE.brw fe_int))))) (FE.brw (fe_op op_mulA od_mul (FE.l0 (fe_ix (FE.l0 (fe_var 1)) (FE.brw fe_int))) (FE.brw (fe_ix (FE.l0 (fe_var 0)) (FE.brw fe_int))))))))⟩)
theorem ok_is_value (T : Tx K mg) : FnOk P w K mg base CX0 3 T.f_is_value T.d_is_value ["value"] (spD K 1 0 F_values_is_value) :=
  fn_ok (N := N_is_value) (fl0 := [0]) T.t_is_value sc_is_value (fun cdv A outer s H E tp B hr => ⟨[0], (fss_one (fs_ret (fe_or (fe_cmp op_isA od_is (FE.brw (fe_var 0)) (FE.brw fe_non)) (fe_one (fe_call (ok_is_ratio T) (hr.mono (by omega)) rfl T.g_is_ratio T.t_is_ratio.kp T.b_is_ratio pass0 (fa_cons (FE.brw (fe_var 0)) fa_nil))))))⟩)
theorem ok_is_less (T : Tx K mg) : FnOk P w K mg base CX0 2 T.f_is_less T.d_is_less ["one", "other"] (spD K 2 0 F_values_is_less) :=
  fn_ok (N := N_is_less) (fl0 := [0, 0]) T.t_is_less sc_is_less (fun cdv A outer s H E tp B hr => ⟨[0, 0], (fss_cons (fl1 := [0, 0]) (fs_if (FW.ft (fw_or (ft_cmp op_isA od_is (FE.brw (fe_var 0)) (FE.brw fe_non)) (fw_or1 (ft_cmp op_isA od_is (FE.brw (fe_var 1)) (FE.brw fe_non))))) (fss_one (fs_ret (fe_and (fe_cmp op_isA od_is (FE.brw (fe_var 0)) (FE.brw fe_non)) (fe_one (fe_cmp op_isNotA od_isNot (FE.brw (fe_var 1)) (FE.brw fe_non)))))) fss_nil) (fss_one (fs_ret (fe_call (ok_less T) (hr.mono (by omega)) rfl T.g_less T.t_less.kp T.b_less pass0 (fa_cons (FE.brw (fe_var 0)) (fa_cons (FE.brw (fe_var 1)) fa_nil))))))⟩)
theorem ok_greater (T : Tx K mg) : FnOk P w K mg base CX0 3 T.f_greater T.d_greater ["one", "other"] (spD K 2 0 F_values_greater) :=
  fn_ok (N := N_greater) (fl0 := [0, 0]) T.t_greater sc_greater (fun cdv A outer s H E tp B hr => ⟨[0, 0], (fss_one (fs_ret (fe_if (ft_val (fe_call (ok_is_less T) (hr.mono (by omega)) rfl T.g_is_less T.t_is_less.kp T.b_is_less pass0 (fa_cons (FE.brw (fe_var 0)) (fa_cons (FE.brw (fe_var 1)) fa_nil)))) (fe_var 1) (fe_var 0))))⟩)
theorem ok_greatest (T : Tx K mg) : FnOk P w K mg base CX0 4 T.f_greatest T.d_greatest ["values"] (spD K 1 0 F_values_greatest) :=
  fn_ok (N := N_greatest) (fl0 := [0, 0, 0]) T.t_greatest sc_greatest (fun cdv A outer s H E tp B hr => ⟨[0, 0, 0], (fss_cons (fl1 := [0, 0, 0]) (fs_set (fl' := [0, 0, 0]) 1 (n := 0) sc_greatest.nd fe_non) (fss_cons (fl1 := [0, 0, 0]) (fs_for (ws := [2]) (fl1 := [0, 0, 0]) PassesOwn.never rfl (fi_any (fe_var 0)) (fun _ => (fg_name (fl' := [0, 0, 0]) 2 sc_greatest.nd)) (fun _ => (fss_one (fs_set (fl' := [0, 0, 0]) 1 (n := 0) sc_greatest.nd (fe_call (ok_greater T) (hr.mono (by omega)) rfl T.g_greater T.t_greater.kp T.b_greater pass0 (fa_cons (FE.brw (fe_var 1)) (fa_cons (FE.brw (fe_var 2)) fa_nil))))))) (fss_one (fs_ret (fe_var 1)))))⟩)
theorem ok_plus (T : Tx K mg) : FnOk P w K mg base CX0 4 T.f_plus T.d_plus ["one", "other"] (spD K 2 0 F_values_plus) :=
  fn_ok (N := N_plus) (fl0 := [0, 0]) T.t_plus sc_plus (fun cdv A outer s H E tp B hr => ⟨[0, 0], (fss_one (fs_ret (fe_if (FW.ft (fw_or (ft_cmp op_isA od_is (FE.brw (fe_var 0)) (FE.brw fe_non)) (fw_or1 (ft_cmp op_isA od_is (FE.brw (fe_var 1)) (FE.brw fe_non))))) fe_non (fe_call (ok_add T) (hr.mono (by omega)) rfl T.g_add T.t_add.kp T.b_add pass0 (fa_cons (FE.brw (fe_var 0)) (fa_cons (FE.brw (fe_var 1)) fa_nil))))))⟩)
theorem ok_times (T : Tx K mg) : FnOk P w K mg base CX0 4 T.f_times T.d_times ["value", "number"] (spD K 2 0 F_values_times) :=
  fn_ok (N := N_times) (fl0 := [0, 0]) T.t_times sc_times (fun cdv A outer s H E tp B hr => ⟨[0, 0], (fss_cons (fl1 := [0, 0]) (fs_if (ft_cmp (op_eqD hr.units) od_eq (FE.brw (fe_var 1)) (FE.brw fe_int)) (fss_one (fs_ret (fe_gc T.c_ZERO rfl))) fss_nil) (fss_one (fs_ret (fe_if (ft_cmp op_isA od_is (FE.brw (fe_var 0)) (FE.brw fe_non)) fe_non (fe_call (ok_multiply T) (hr.mono (by omega)) rfl T.g_multiply T.t_multiply.kp T.b_multiply pass0 (fa_cons (FE.brw (fe_var 0)) (fa_cons (FE.brw (fe_tup (fa_cons (fe_var 1) (fa_cons fe_int fa_nil)))) fa_nil)))))))⟩)
theorem ok_mean (T : Tx K mg) : FnOk P w K mg base CX0 3 T.f_mean T.d_mean ["value", "count"] (spD K 2 0 F_values_mean) :=
  fn_ok (N := N_mean) (fl0 := [0, 0]) T.t_mean sc_mean (fun cdv A outer s H E tp B hr => ⟨[0, 0], (fss_one (fs_ret (fe_call (ok_make T) (hr.mono (by omega)) rfl T.g_make T.t_make.kp T.b_make pass0 (fa_cons (FE.brw (fe_ix (FE.l0 (fe_var 0)) (FE.brw fe_int))) (fa_cons (FE.brw (fe_op op_mulA od_mul (FE.l0 (fe_ix (FE.l0 (fe_var 0)) (FE.brw fe_int))) (FE.brw (fe_var 1)))) fa_nil)))))⟩)
theorem ok_steps (T : Tx K mg) : FnOk P w K mg base CX0 4 T.f_steps T.d_steps ["row"] (spD K 1 1 F_concave_steps) :=
  fn_ok (N := N_steps) (fl0 := [0, 0, 0]) T.t_steps sc_steps (fun cdv A outer s H E tp B hr => ⟨[0, 0, 0], (fss_one (fs_ret (fe_lc (own := [("one", 1), ("other", 2)]) (ws := [1, 2]) (fl1 := [0, 0, 0]) (n := 0) rfl sc_steps.nd (fi_zip rfl T.z_zip (fa_cons (fe_var 0) (fa_cons (fe_slT (FE.l0 (fe_var 0)) (fo_some fe_int) fo_none) fa_nil))) (blkOk_by (N := N_steps) (sc := (defScope s_steps)) (by decide +kernel)) (fun _ _ _ _ _ _ => (fg_tup rfl (fgs_cons (fg_name (fl' := [0, 0, 0]) 1 sc_steps.nd) (fgs_cons (fg_name (fl' := [0, 0, 0]) 2 sc_steps.nd) fgs_nil (.inr (by decide))) (.inr (by decide))))) (fun _ _ _ _ _ _ => fts_nil) (fun _ _ _ _ _ _ => (fe_call (ok_subtract T) (hr.mono (by omega)) rfl T.g_subtract T.t_subtract.kp T.b_subtract pass0 (fa_cons (FE.brw (fe_var 2)) (fa_cons (FE.brw (fe_var 1)) fa_nil)))) (by decide) (by decide))))⟩)
theorem ok_is_row (T : Tx K mg) : FnOk P w K mg base CX0 5 T.f_is_row T.d_is_row ["value"] (spD K 1 0 F_concave_is_row) :=
  fn_ok (N := N_is_row) (fl0 := [0, 0, 0, 0, 0]) T.t_is_row sc_is_row (fun cdv A outer s H E tp B hr => ⟨[0, 0, 0, 0, 0], (fss_cons (fl1 := [0, 0, 0, 0, 0]) (fs_if (FW.ft (fw_or (ft_not (ft_val (fe_isi "tuple" rfl T.z_isinstance rfl T.z_tuple boot_tuple' (fe_var 0) (.inr (.inr (.inl rfl)))))) (fw_or (ft_cmp (op_eqD hr.units) od_eq (FE.brw (fe_var 0)) (FE.brw (fe_tup fa_nil))) (fw_or1 (ft_cmp op_gt od_gt (FE.brw (fe_callB cr_lenA cd_len rfl T.z_len boot_len' (fa_cons (FE.brw (fe_var 0)) fa_nil))) (FE.brw (fe_gc T.c_MOST_ITEMS rfl))))))) (fss_one (fs_ret fe_bl)) fss_nil) (fss_cons (fl1 := [0, 0, 0, 0, 0]) (fs_if (ft_not (ft_val (fe_callB (cr_all rfl) cd_all rfl T.z_all boot_all' (fa_cons (FE.brw (fe_lc (own := [("item", 2)]) (ws := [2]) (fl1 := [0, 0, 0, 0, 0]) (n := 0) rfl sc_is_row.nd (fi_any (fe_var 0)) (blkOk_by (N := N_is_row) (sc := (defScope s_is_row)) (by decide +kernel)) (fun _ _ _ _ _ _ => (fg_name (fl' := [0, 0, 0, 0, 0]) 2 sc_is_row.nd)) (fun _ _ _ _ _ _ => fts_nil) (fun _ _ _ _ _ _ => (fe_call (ok_is_ratio T) (hr.mono (by omega)) rfl T.g_is_ratio T.t_is_ratio.kp T.b_is_ratio pass0 (fa_cons (FE.brw (fe_var 2)) fa_nil))) (by decide) (by decide))) fa_nil)))) (fss_one (fs_ret fe_bl)) fss_nil) (fss_cons (fl1 := [0, 1, 0, 0, 0]) (fs_set (fl' := [0, 1, 0, 0, 0]) 1 (n := 1) sc_is_row.nd (fe_call (ok_steps T) (hr.mono (by omega)) rfl T.g_steps T.t_steps.kp T.b_steps pass0 (fa_cons (FE.brw (fe_var 0)) fa_nil))) (FSs.weak0 1 (fss_one (fs_ret (fe_not (fe_callB (cr_any rfl) cd_any rfl T.z_any boot_any' (fa_cons (FE.brw (fe_lc (own := [("one", 3), ("other", 4)]) (ws := [3, 4]) (fl1 := [0, 0, 0, 0, 0]) (n := 0) rfl sc_is_row.nd (fi_zip rfl T.z_zip (fa_cons (fe_var 1) (fa_cons (FE.z (fe_slL (FE.l0 (fe_var 1)) (fo_some fe_int) fo_none)) fa_nil))) (blkOk_by (N := N_is_row) (sc := (defScope s_is_row)) (by decide +kernel)) (fun _ _ _ _ _ _ => (fg_tup rfl (fgs_cons (fg_name (fl' := [0, 0, 0, 0, 0]) 3 sc_is_row.nd) (fgs_cons (fg_name (fl' := [0, 0, 0, 0, 0]) 4 sc_is_row.nd) fgs_nil (.inr (by decide))) (.inr (by decide))))) (fun _ _ _ _ _ _ => fts_nil) (fun _ _ _ _ _ _ => (fe_call (ok_less T) (hr.mono (by omega)) rfl T.g_less T.t_less.kp T.b_less pass0 (fa_cons (FE.brw (fe_var 3)) (fa_cons (FE.brw (fe_var 4)) fa_nil)))) (by decide) (by decide))) fa_nil)))))))))⟩)
theorem ok_check_row (T : Tx K mg) : FnOk P w K mg base CX0 6 T.f_check_row T.d_check_row ["value"] (spD K 1 0 F_concave_check_row) :=
  fn_ok (N := N_check_row) (fl0 := [0]) T.t_check_row sc_check_row (fun cdv A outer s H E tp B hr => ⟨[0], (fss_one (fs_if (ft_not (ft_val (fe_call (ok_is_row T) (hr.mono (by omega)) rfl T.g_is_row T.t_is_row.kp T.b_is_row pass0 (fa_cons (FE.brw (fe_var 0)) fa_nil)))) (fss_one fs_never) fss_nil))⟩)
theorem ok_summed (T : Tx K mg) : FnOk P w K mg base CX0 7 T.f_summed T.d_summed ["one", "other"] (spD K 2 0 F_concave_summed) :=
  fn_ok (N := N_summed) (fl0 := [0, 0, 0, 0, 0]) T.t_summed sc_summed (fun cdv A outer s H E tp B hr => ⟨[0, 0, 0, 0, 0], (fss_cons (fl1 := [0, 0, 0, 0, 0]) (fs_expr (fe_call (ok_check_row T) (hr.mono (by omega)) rfl T.g_check_row T.t_check_row.kp T.b_check_row pass0 (fa_cons (FE.brw (fe_var 0)) fa_nil))) (fss_cons (fl1 := [0, 0, 0, 0, 0]) (fs_expr (fe_call (ok_check_row T) (hr.mono (by omega)) rfl T.g_check_row T.t_check_row.kp T.b_check_row pass0 (fa_cons (FE.brw (fe_var 1)) fa_nil))) (fss_cons (fl1 := [0, 0, 1, 1, 1]) (fs_par3N (fl' := [0, 0, 1, 1, 1]) 2 3 4 (n1 := 1) (n2 := 1) (n3 := 1) rfl sc_summed.nd (fe_lst (fa_cons (fe_call (ok_add T) (hr.mono (by omega)) rfl T.g_add T.t_add.kp T.b_add pass0 (fa_cons (FE.brw (fe_ix (FE.l0 (fe_var 0)) (FE.brw fe_int))) (fa_cons (FE.brw (fe_ix (FE.l0 (fe_var 1)) (FE.brw fe_int))) fa_nil))) fa_nil)) (fe_call (ok_steps T) (hr.mono (by omega)) rfl T.g_steps T.t_steps.kp T.b_steps pass0 (fa_cons (FE.brw (fe_var 0)) fa_nil)) (fe_call (ok_steps T) (hr.mono (by omega)) rfl T.g_steps T.t_steps.kp T.b_steps pass0 (fa_cons (FE.brw (fe_var 1)) fa_nil)) (by rfl)) (fss_cons (fl1 := [0, 0, 1, 1, 1]) (fs_while (fun _ _ => 1000) PassesOwn.never (FW.ft (fw_or (ft_cmp (op_neD hr.units) od_ne (FE.brw (fe_varW 3 (n := 1))) (FE.brw (fe_lst fa_nil))) (fw_or1 (ft_cmp (op_neD hr.units) od_ne (FE.brw (fe_varW 4 (n := 1))) (FE.brw (fe_lst fa_nil)))))) (fss_one (fs_if (FW.ft (fw_or (ft_cmp (op_eqD hr.units) od_eq (FE.brw (fe_varW 4 (n := 1))) (FE.brw (fe_lst fa_nil))) (fw_or1 (FW.ft (fw_and (ft_cmp (op_neD hr.units) od_ne (FE.brw (fe_varW 3 (n := 1))) (FE.brw (fe_lst fa_nil))) (fw_and1 (ft_not (ft_val (fe_call (ok_less T) (hr.mono (by omega)) rfl T.g_less T.t_less.kp T.b_less pass0 (fa_cons (FE.brw (fe_ix (FE.lw (fe_varW 3 (n := 1))) (FE.brw fe_int))) (fa_cons (FE.brw (fe_ix (FE.lw (fe_varW 4 (n := 1))) (FE.brw fe_int))) fa_nil))))))))))) (fss_one (fs_appX 2 rfl (fx_call2 (ok_add T) (hr.mono (by omega)) rfl T.g_add T.t_add.kp T.b_add pass0 (fe_ix (FE.lw (fe_varW 2 (n := 1))) (FE.brw (fe_neg fe_int))) (fx_popAt 3 rfl fe_int)))) (fss_one (fs_appX 2 rfl (fx_call2 (ok_add T) (hr.mono (by omega)) rfl T.g_add T.t_add.kp T.b_add pass0 (fe_ix (FE.lw (fe_varW 2 (n := 1))) (FE.brw (fe_neg fe_int))) (fx_popAt 4 rfl fe_int))))))) (fss_one (fs_ret (fe_callTy call_tuple_of cd_tuple rfl T.z_tuple boot_tuple' (fa_cons (FE.lw (fe_varW 2 (n := 1))) fa_nil))))))))⟩)
theorem ok_shares (T : Tx K mg) : FnOk P w K mg base CX0 7 T.f_shares T.d_shares ["rows", "count"] (spD K 2 0 F_concave_shares) :=
  fn_ok (N := N_shares) (fl0 := [0, 0, 0, 0, 0, 0, 0, 0]) T.t_shares sc_shares (fun cdv A outer s H E tp B hr => ⟨[0, 0, 0, 0, 0, 0, 0, 0], (fss_cons (fl1 := [0, 0, 0, 0, 0, 0, 0, 0]) (fs_for (ws := [2]) (fl1 := [0, 0, 0, 0, 0, 0, 0, 0]) PassesOwn.never rfl (fi_any (fe_var 0)) (fun _ => (fg_name (fl' := [0, 0, 0, 0, 0, 0, 0, 0]) 2 sc_shares.nd)) (fun _ => (fss_one (fs_expr (fe_call (ok_check_row T) (hr.mono (by omega)) rfl T.g_check_row T.t_check_row.kp T.b_check_row pass0 (fa_cons (FE.brw (fe_var 2)) fa_nil)))))) (fss_cons (fl1 := [0, 0, 0, 0, 0, 0, 0, 0]) (fs_if (FW.ft (fw_or (ft_not (ft_val (fe_isi "tuple" rfl T.z_isinstance rfl T.z_tuple boot_tuple' (fe_var 0) (.inr (.inr (.inl rfl)))))) (fw_or (ft_cmp (op_eqD hr.units) od_eq (FE.brw (fe_var 0)) (FE.brw (fe_tup fa_nil))) (fw_or (ft_cmp op_gt od_gt (FE.brw (fe_callB cr_lenA cd_len rfl T.z_len boot_len' (fa_cons (FE.brw (fe_var 0)) fa_nil))) (FE.brw (fe_gc T.c_MOST_ROWS rfl))) (fw_or (ft_not (ft_val (fe_call (ok_is_integer T) (hr.mono (by omega)) rfl T.g_is_integer T.t_is_integer.kp T.b_is_integer pass0 (fa_cons (FE.brw (fe_var 1)) fa_nil)))) (fw_or1 (ft_cmp op_lt od_lt (FE.brw (fe_var 1)) (FE.brw fe_int)))))))) (fss_one fs_never) fss_nil) (fss_cons (fl1 := [0, 0, 0, 0, 0, 0, 0, 0]) (fs_if (ft_cmp op_gt od_gt (FE.brw (fe_var 1)) (FE.brw (fe_callB (cr_sum rfl) cd_sum rfl T.z_sum boot_sum' (fa_cons (FE.brw (fe_lc (own := [("row", 2)]) (ws := [2]) (fl1 := [0, 0, 0, 0, 0, 0, 0, 0]) (n := 0) rfl sc_shares.nd (fi_any (fe_var 0)) (blkOk_by (N := N_shares) (sc := (defScope s_shares)) (by decide +kernel)) (fun _ _ _ _ _ _ => (fg_name (fl' := [0, 0, 0, 0, 0, 0, 0, 0]) 2 sc_shares.nd)) (fun _ _ _ _ _ _ => fts_nil) (fun _ _ _ _ _ _ => (fe_op op_sub od_sub (FE.brw (fe_callB cr_lenA cd_len rfl T.z_len boot_len' (fa_cons (FE.brw (fe_var 2)) fa_nil))) (FE.brw fe_int))) (by decide) (by decide))) fa_nil)))) (fss_one fs_never) fss_nil) (fss_cons (fl1 := [0, 0, 0, 1, 0, 0, 0, 0]) (fs_set (fl' := [0, 0, 0, 1, 0, 0, 0, 0]) 3 (n := 1) sc_shares.nd (fe_op op_rep od_rep (FE.l1 (fe_lst (fa_cons fe_int fa_nil))) (FE.brw (fe_callB cr_lenA cd_len rfl T.z_len boot_len' (fa_cons (FE.brw (fe_var 0)) fa_nil))))) (fss_cons (fl1 := [0, 0, 0, 1, 0, 0, 0, 0]) (fs_for (ws := [4]) (fl1 := [0, 0, 0, 1, 0, 0, 0, 0]) PassesOwn.never rfl (fi_range1 rfl T.z_range (fa_cons (FE.brw (fe_var 1)) fa_nil)) (fun _ => (fg_name (fl' := [0, 0, 0, 1, 0, 0, 0, 0]) 4 sc_shares.nd)) (fun _ => (fss_cons (fl1 := [0, 0, 0, 1, 0, 0, 0, 0]) (fs_set (fl' := [0, 0, 0, 1, 0, 0, 0, 0]) 5 (n := 0) sc_shares.nd fe_non) (fss_cons (fl1 := [0, 0, 0, 1, 0, 0, 0, 0]) (fs_for (ws := [6, 2]) (fl1 := [0, 0, 0, 1, 0, 0, 0, 0]) PassesOwn.never rfl (fi_enum rfl T.z_enumerate (fa_cons (fe_var 0) fa_nil)) (fun _ => (fg_tup rfl (fgs_cons (fg_name (fl' := [0, 0, 0, 1, 0, 0, 0, 0]) 6 sc_shares.nd) (fgs_cons (fg_name (fl' := [0, 0, 0, 1, 0, 0, 0, 0]) 2 sc_shares.nd) fgs_nil (.inr (by decide))) (.inr (by decide))))) (fun _ => (fss_one (fs_if (ft_cmp op_lt od_lt (FE.brw (fe_op op_addA od_add (FE.l0 (fe_ix (FE.lw (fe_varW 3 (n := 1))) (FE.brw (fe_var 6)))) (FE.l0 fe_int))) (FE.brw (fe_callB cr_lenA cd_len rfl T.z_len boot_len' (fa_cons (FE.brw (fe_var 2)) fa_nil)))) (fss_cons (fl1 := [0, 0, 0, 1, 0, 0, 0, 0]) (fs_set (fl' := [0, 0, 0, 1, 0, 0, 0, 0]) 7 (n := 0) sc_shares.nd (fe_call (ok_subtract T) (hr.mono (by omega)) rfl T.g_subtract T.t_subtract.kp T.b_subtract pass0 (fa_cons (FE.brw (fe_ix (FE.l0 (fe_var 2)) (FE.brw (fe_op op_addA od_add (FE.l0 (fe_ix (FE.lw (fe_varW 3 (n := 1))) (FE.brw (fe_var 6)))) (FE.l0 fe_int))))) (fa_cons (FE.brw (fe_ix (FE.l0 (fe_var 2)) (FE.brw (fe_ix (FE.lw (fe_varW 3 (n := 1))) (FE.brw (fe_var 6)))))) fa_nil)))) (fss_one (fs_if (FW.ft (fw_or (ft_cmp op_isA od_is (FE.brw (fe_var 5)) (FE.brw fe_non)) (fw_or1 (ft_val (fe_call (ok_less T) (hr.mono (by omega)) rfl T.g_less T.t_less.kp T.b_less pass0 (fa_cons (FE.brw (fe_ix (FE.l0 (fe_var 5)) (FE.brw fe_int))) (fa_cons (FE.brw (fe_var 7)) fa_nil))))))) (fss_one (fs_set (fl' := [0, 0, 0, 1, 0, 0, 0, 0]) 5 (n := 0) sc_shares.nd (fe_tup (fa_cons (fe_var 7) (fa_cons (fe_var 6) fa_nil))))) fss_nil))) fss_nil)))) (fss_one (fs_augI 3 rfl ip_add (fe_ix (FE.l0 (fe_var 5)) (FE.brw fe_int)) fe_int)))))) (fss_one (fs_ret (fe_callTy call_tuple_of cd_tuple rfl T.z_tuple boot_tuple' (fa_cons (FE.lw (fe_varW 3 (n := 1))) fa_nil)))))))))⟩)
theorem ok_worth (T : Tx K mg) : FnOk P w K mg base CX0 4 T.f_worth T.d_worth ["rows", "lot"] (spD K 2 0 F_concave_worth) :=
  fn_ok (N := N_worth) (fl0 := [0, 0, 0, 0, 0]) T.t_worth sc_worth (fun cdv A outer s H E tp B hr => ⟨[0, 0, 0, 0, 0], (fss_cons (fl1 := [0, 0, 0, 0, 0]) (fs_set (fl' := [0, 0, 0, 0, 0]) 2 (n := 0) sc_worth.nd (fe_gc T.c_ZERO rfl)) (fss_cons (fl1 := [0, 0, 0, 0, 0]) (fs_for (ws := [3, 4]) (fl1 := [0, 0, 0, 0, 0]) PassesOwn.never rfl (fi_zip rfl T.z_zip (fa_cons (fe_var 0) (fa_cons (fe_var 1) fa_nil))) (fun _ => (fg_tup rfl (fgs_cons (fg_name (fl' := [0, 0, 0, 0, 0]) 3 sc_worth.nd) (fgs_cons (fg_name (fl' := [0, 0, 0, 0, 0]) 4 sc_worth.nd) fgs_nil (.inr (by decide))) (.inr (by decide))))) (fun _ => (fss_cons (fl1 := [0, 0, 0, 0, 0]) (fs_if (FW.ft (fw_or (ft_not (ft_val (fe_call (ok_is_integer T) (hr.mono (by omega)) rfl T.g_is_integer T.t_is_integer.kp T.b_is_integer pass0 (fa_cons (FE.brw (fe_var 4)) fa_nil)))) (fw_or (ft_cmp op_lt od_lt (FE.brw (fe_var 4)) (FE.brw fe_int)) (fw_or1 (ft_cmp op_ge od_ge (FE.brw (fe_var 4)) (FE.brw (fe_callB cr_lenA cd_len rfl T.z_len boot_len' (fa_cons (FE.brw (fe_var 3)) fa_nil)))))))) (fss_one fs_never) fss_nil) (fss_one (fs_set (fl' := [0, 0, 0, 0, 0]) 2 (n := 0) sc_worth.nd (fe_call (ok_add T) (hr.mono (by omega)) rfl T.g_add T.t_add.kp T.b_add pass0 (fa_cons (FE.brw (fe_var 2)) (fa_cons (FE.brw (fe_ix (FE.l0 (fe_var 3)) (FE.brw (fe_var 4)))) fa_nil)))))))) (fss_one (fs_ret (fe_var 2)))))⟩)
theorem ok_price (T : Tx K mg) : FnOk P w K mg base CX0 8 T.f_price T.d_price ["rows", "count"] (spD K 2 0 F_concave_price) :=
  fn_ok (N := N_price) (fl0 := [0, 0, 0, 0, 0, 0, 0, 0, 0]) T.t_price sc_price (fun cdv A outer s H E tp B hr => ⟨[0, 0, 0, 0, 0, 0, 0, 0, 0], (fss_cons (fl1 := [0, 0, 0, 0, 0, 0, 0, 0, 0]) (fs_set (fl' := [0, 0, 0, 0, 0, 0, 0, 0, 0]) 2 (n := 0) sc_price.nd (fe_call (ok_shares T) (hr.mono (by omega)) rfl T.g_shares T.t_shares.kp T.b_shares pass0 (fa_cons (FE.brw (fe_var 0)) (fa_cons (FE.brw (fe_var 1)) fa_nil)))) (fss_cons (fl1 := [0, 0, 0, 1, 0, 0, 0, 0, 0]) (fs_setLc (fl' := [0, 0, 0, 1, 0, 0, 0, 0, 0]) (own := [("row", 7), ("k", 8)]) (ws := [7, 8]) (fl1 := [0, 0, 0, 0, 0, 0, 0, 0, 0]) (n := 0) rfl sc_price.nd rfl rfl (sw_true rfl rfl rfl (by decide +kernel)) (fi_zip rfl T.z_zip (fa_cons (fe_var 0) (fa_cons (fe_var 2) fa_nil))) (blkOk_by (N := N_price) (sc := (defScope s_price)) (by decide +kernel)) (fun _ _ _ _ _ _ => (fg_tup rfl (fgs_cons (fg_name (fl' := [0, 0, 0, 0, 0, 0, 0, 0, 0]) 7 sc_price.nd) (fgs_cons (fg_name (fl' := [0, 0, 0, 0, 0, 0, 0, 0, 0]) 8 sc_price.nd) fgs_nil (.inr (by decide))) (.inr (by decide))))) (fun _ _ _ _ _ _ => (fts_one (ft_cmp op_gt od_gt (FE.brw (fe_var 8)) (FE.brw fe_int)))) (fun _ _ _ _ _ _ => (fe_call (ok_subtract T) (hr.mono (by omega)) rfl T.g_subtract T.t_subtract.kp T.b_subtract pass0 (fa_cons (FE.brw (fe_ix (FE.l0 (fe_var 7)) (FE.brw (fe_var 8)))) (fa_cons (FE.brw (fe_ix (FE.l0 (fe_var 7)) (FE.brw (fe_op op_sub od_sub (FE.brw (fe_var 8)) (FE.brw fe_int))))) fa_nil)))) (by decide) (by decide)) (fss_cons (fl1 := [0, 0, 0, 1, 1, 0, 0, 0, 0]) (fs_setLc (fl' := [0, 0, 0, 1, 1, 0, 0, 0, 0]) (own := [("row", 7), ("k", 8)]) (ws := [7, 8]) (fl1 := [0, 0, 0, 1, 0, 0, 0, 0, 0]) (n := 0) rfl sc_price.nd rfl rfl (sw_true rfl rfl rfl (by decide +kernel)) (fi_zip rfl T.z_zip (fa_cons (fe_var 0) (fa_cons (fe_var 2) fa_nil))) (blkOk_by (N := N_price) (sc := (defScope s_price)) (by decide +kernel)) (fun _ _ _ _ _ _ => (fg_tup rfl (fgs_cons (fg_name (fl' := [0, 0, 0, 1, 0, 0, 0, 0, 0]) 7 sc_price.nd) (fgs_cons (fg_name (fl' := [0, 0, 0, 1, 0, 0, 0, 0, 0]) 8 sc_price.nd) fgs_nil (.inr (by decide))) (.inr (by decide))))) (fun _ _ _ _ _ _ => (fts_one (ft_cmp op_lt od_lt (FE.brw (fe_op op_addA od_add (FE.l0 (fe_var 8)) (FE.l0 fe_int))) (FE.brw (fe_callB cr_lenA cd_len rfl T.z_len boot_len' (fa_cons (FE.brw (fe_var 7)) fa_nil)))))) (fun _ _ _ _ _ _ => (fe_call (ok_subtract T) (hr.mono (by omega)) rfl T.g_subtract T.t_subtract.kp T.b_subtract pass0 (fa_cons (FE.brw (fe_ix (FE.l0 (fe_var 7)) (FE.brw (fe_op op_addA od_add (FE.l0 (fe_var 8)) (FE.l0 fe_int))))) (fa_cons (FE.brw (fe_ix (FE.l0 (fe_var 7)) (FE.brw (fe_var 8)))) fa_nil)))) (by decide) (by decide)) (fss_cons (fl1 := [0, 0, 0, 1, 1, 0, 0, 0, 0]) (fs_if (ft_cmp (op_eqD hr.units) od_eq (FE.brw (fe_varW 3 (n := 1))) (FE.brw (fe_lst fa_nil))) (fss_one (fs_ret (fe_call (ok_greatest T) (hr.mono (by omega)) rfl T.g_greatest T.t_greatest.kp T.b_greatest pass0 (fa_cons (FE.brw (fe_varW 4 (n := 1))) fa_nil)))) fss_nil) (fss_cons (fl1 := [0, 0, 0, 1, 1, 0, 0, 0, 0]) (fs_set (fl' := [0, 0, 0, 1, 1, 0, 0, 0, 0]) 5 (n := 0) sc_price.nd (fe_ix (FE.lw (fe_varW 3 (n := 1))) (FE.brw fe_int))) (fss_cons (fl1 := [0, 0, 0, 1, 1, 0, 0, 0, 0]) (fs_for (ws := [6]) (fl1 := [0, 0, 0, 1, 1, 0, 0, 0, 0]) PassesOwn.never rfl (fi_any (FE.z (fe_slL (FE.lw (fe_varW 3 (n := 1))) (fo_some fe_int) fo_none))) (fun _ => (fg_name (fl' := [0, 0, 0, 1, 1, 0, 0, 0, 0]) 6 sc_price.nd)) (fun _ => (fss_one (fs_set (fl' := [0, 0, 0, 1, 1, 0, 0, 0, 0]) 5 (n := 0) sc_price.nd (fe_if (ft_val (fe_call (ok_less T) (hr.mono (by omega)) rfl T.g_less T.t_less.kp T.b_less pass0 (fa_cons (FE.brw (fe_var 6)) (fa_cons (FE.brw (fe_var 5)) fa_nil)))) (fe_var 6) (fe_var 5)))))) (fss_one (fs_ret (fe_var 5)))))))))⟩)
theorem ok_is_bend (T : Tx K mg) : FnOk P w K mg base CX0 4 T.f_is_bend T.d_is_bend ["first", "middle", "last"] (spD K 3 0 F_concave_is_bend) :=
  fn_ok (N := N_is_bend) (fl0 := [0, 0, 0, 0, 0]) T.t_is_bend sc_is_bend (fun cdv A outer s H E tp B hr => ⟨[0, 0, 0, 0, 0], (fss_cons (fl1 := [0, 0, 0, 0, 0]) (fs_set (fl' := [0, 0, 0, 0, 0]) 3 (n := 0) sc_is_bend.nd (fe_call (ok_subtract T) (hr.mono (by omega)) rfl T.g_subtract T.t_subtract.kp T.b_subtract pass0 (fa_cons (FE.brw (fe_ix (FE.l0 (fe_var 1)) (FE.brw fe_int))) (fa_cons (FE.brw (fe_ix (FE.l0 (fe_var 0)) (FE.brw fe_int))) fa_nil)))) (fss_cons (fl1 := [0, 0, 0, 0, 0]) (fs_set (fl' := [0, 0, 0, 0, 0]) 4 (n := 0) sc_is_bend.nd (fe_call (ok_subtract T) (hr.mono (by omega)) rfl T.g_subtract T.t_subtract.kp T.b_subtract pass0 (fa_cons (FE.brw (fe_ix (FE.l0 (fe_var 2)) (FE.brw fe_int))) (fa_cons (FE.brw (fe_ix (FE.l0 (fe_var 1)) (FE.brw fe_int))) fa_nil)))) (fss_one (fs_ret (fe_cmp op_gt od_gt (FE.brw (fe_op op_mulA od_mul (FE.l0 (fe_op op_mulA od_mul (FE.l0 (fe_ix (FE.l0 (fe_var 3)) (FE.brw fe_int))) (FE.brw (fe_op op_sub od_sub (FE.brw (fe_ix (FE.l0 (fe_var 2)) (FE.brw fe_int))) (FE.brw (fe_ix (FE.l0 (fe_var 1)) (FE.brw fe_int))))))) (FE.brw (fe_ix (FE.l0 (fe_var 4)) (FE.brw fe_int))))) (FE.brw (fe_op op_mulA od_mul (FE.l0 (fe_op op_mulA od_mul (FE.l0 (fe_ix (FE.l0 (fe_var 4)) (FE.brw fe_int))) (FE.brw (fe_op op_sub od_sub (FE.brw (fe_ix (FE.l0 (fe_var 1)) (FE.brw fe_int))) (FE.brw (fe_ix (FE.l0 (fe_var 0)) (FE.brw fe_int))))))) (FE.brw (fe_ix (FE.l0 (fe_var 3)) (FE.brw fe_int))))))))))⟩)
theorem ok_hull (T : Tx K mg) : FnOk P w K mg base CX0 5 T.f_hull T.d_hull ["row"] (spD K 1 0 F_concave_hull) :=
  fn_ok (N := N_hull) (fl0 := [0, 0, 0, 0, 0, 0, 0, 0, 0, 0, 0]) T.t_hull sc_hull (fun cdv A outer s H E tp B hr => ⟨[0, 0, 0, 0, 0, 0, 0, 0, 0, 0, 0], (fss_cons (fl1 := [0, 0, 0, 0, 0, 0, 0, 0, 0, 0, 0]) (fs_if (FW.ft (fw_or (ft_not (ft_val (fe_isi "tuple" rfl T.z_isinstance rfl T.z_tuple boot_tuple' (fe_var 0) (.inr (.inr (.inl rfl)))))) (fw_or (ft_cmp (op_eqD hr.units) od_eq (FE.brw (fe_var 0)) (FE.brw (fe_tup fa_nil))) (fw_or (ft_cmp op_gt od_gt (FE.brw (fe_callB cr_lenA cd_len rfl T.z_len boot_len' (fa_cons (FE.brw (fe_var 0)) fa_nil))) (FE.brw (fe_gc T.c_MOST_ITEMS rfl))) (fw_or1 (ft_not (ft_val (fe_callB (cr_all rfl) cd_all rfl T.z_all boot_all' (fa_cons (FE.brw (fe_lc (own := [("item", 1)]) (ws := [1]) (fl1 := [0, 0, 0, 0, 0, 0, 0, 0, 0, 0, 0]) (n := 0) rfl sc_hull.nd (fi_any (fe_var 0)) (blkOk_by (N := N_hull) (sc := (defScope s_hull)) (by decide +kernel)) (fun _ _ _ _ _ _ => (fg_name (fl' := [0, 0, 0, 0, 0, 0, 0, 0, 0, 0, 0]) 1 sc_hull.nd)) (fun _ _ _ _ _ _ => fts_nil) (fun _ _ _ _ _ _ => (fe_call (ok_is_ratio T) (hr.mono (by omega)) rfl T.g_is_ratio T.t_is_ratio.kp T.b_is_ratio pass0 (fa_cons (FE.brw (fe_var 1)) fa_nil))) (by decide) (by decide))) fa_nil))))))))) (fss_one fs_never) fss_nil) (fss_cons (fl1 := [0, 0, 1, 0, 0, 0, 0, 0, 0, 0, 0]) (fs_set (fl' := [0, 0, 1, 0, 0, 0, 0, 0, 0, 0, 0]) 2 (n := 1) sc_hull.nd (fe_lst fa_nil)) (fss_cons (fl1 := [0, 0, 1, 0, 0, 0, 0, 0, 0, 0, 0]) (fs_for (ws := [3, 1]) (fl1 := [0, 0, 1, 0, 0, 0, 0, 0, 0, 0, 0]) PassesOwn.never rfl (fi_enum rfl T.z_enumerate (fa_cons (fe_var 0) fa_nil)) (fun _ => (fg_tup rfl (fgs_cons (fg_name (fl' := [0, 0, 1, 0, 0, 0, 0, 0, 0, 0, 0]) 3 sc_hull.nd) (fgs_cons (fg_name (fl' := [0, 0, 1, 0, 0, 0, 0, 0, 0, 0, 0]) 1 sc_hull.nd) fgs_nil (.inr (by decide))) (.inr (by decide))))) (fun _ => (fss_cons (fl1 := [0, 0, 1, 0, 0, 0, 0, 0, 0, 0, 0]) (fs_while (fun _ _ => 1000) PassesOwn.never (FW.ft (fw_and (ft_cmp op_gt od_gt (FE.brw (fe_callB cr_lenA cd_len rfl T.z_len boot_len' (fa_cons (FE.brw (fe_varW 2 (n := 1))) fa_nil))) (FE.brw fe_int)) (fw_and1 (ft_not (ft_val (fe_call (ok_is_bend T) (hr.mono (by omega)) rfl T.g_is_bend T.t_is_bend.kp T.b_is_bend pass0 (fa_cons (FE.brw (fe_ix (FE.lw (fe_varW 2 (n := 1))) (FE.brw (fe_neg fe_int)))) (fa_cons (FE.brw (fe_ix (FE.lw (fe_varW 2 (n := 1))) (FE.brw (fe_neg fe_int)))) (fa_cons (FE.brw (fe_tup (fa_cons (fe_var 3) (fa_cons (fe_var 1) fa_nil)))) fa_nil))))))))) (fss_one (fs_exprX (fx_pop 2 rfl)))) (fss_one (fs_append 2 (n := 0) rfl (fe_tup (fa_cons (fe_var 3) (fa_cons (fe_var 1) fa_nil)))))))) (fss_cons (fl1 := [0, 0, 1, 0, 1, 0, 0, 0, 0, 0, 0]) (fs_set (fl' := [0, 0, 1, 0, 1, 0, 0, 0, 0, 0, 0]) 4 (n := 1) sc_hull.nd (fe_lst fa_nil)) (FSs.weak0 2 (fss_cons (fl1 := [0, 0, 0, 0, 1, 0, 0, 0, 0, 0, 0]) (fs_for (ws := [5, 6, 7, 8]) (fl1 := [0, 0, 0, 0, 1, 0, 0, 0, 0, 0, 0]) PassesOwn.never rfl (fi_zip rfl T.z_zip (fa_cons (fe_var 2) (fa_cons (FE.z (fe_slL (FE.l0 (fe_var 2)) (fo_some fe_int) fo_none)) fa_nil))) (fun _ => (fg_tup rfl (fgs_cons (fg_tup rfl (fgs_cons (fg_name (fl' := [0, 0, 0, 0, 1, 0, 0, 0, 0, 0, 0]) 5 sc_hull.nd) (fgs_cons (fg_name (fl' := [0, 0, 0, 0, 1, 0, 0, 0, 0, 0, 0]) 6 sc_hull.nd) fgs_nil (.inr (by decide))) (.inr (by decide)))) (fgs_cons (fg_tup rfl (fgs_cons (fg_name (fl' := [0, 0, 0, 0, 1, 0, 0, 0, 0, 0, 0]) 7 sc_hull.nd) (fgs_cons (fg_name (fl' := [0, 0, 0, 0, 1, 0, 0, 0, 0, 0, 0]) 8 sc_hull.nd) fgs_nil (.inr (by decide))) (.inr (by decide)))) fgs_nil (.inr (by decide))) (.inr (by decide))))) (fun _ => (fss_cons (fl1 := [0, 0, 0, 0, 1, 0, 0, 0, 0, 0, 0]) (fs_set (fl' := [0, 0, 0, 0, 1, 0, 0, 0, 0, 0, 0]) 9 (n := 0) sc_hull.nd (fe_call (ok_subtract T) (hr.mono (by omega)) rfl T.g_subtract T.t_subtract.kp T.b_subtract pass0 (fa_cons (FE.brw (fe_var 8)) (fa_cons (FE.brw (fe_var 6)) fa_nil)))) (fss_one (fs_extend 4 rfl (FE.l1 (fe_lc (own := [("k", 10)]) (ws := [10]) (fl1 := [0, 0, 0, 0, 1, 0, 0, 0, 0, 0, 0]) (n := 0) rfl sc_hull.nd (fi_range1 rfl T.z_range (fa_cons (FE.brw (fe_op op_sub od_sub (FE.brw (fe_var 7)) (FE.brw (fe_var 5)))) fa_nil)) (blkOk_by (N := N_hull) (sc := (defScope s_hull)) (by decide +kernel)) (fun _ _ _ _ _ _ => (fg_name (fl' := [0, 0, 0, 0, 1, 0, 0, 0, 0, 0, 0]) 10 sc_hull.nd)) (fun _ _ _ _ _ _ => fts_nil) (fun _ _ _ _ _ _ => (fe_call (ok_add T) (hr.mono (by omega)) rfl T.g_add T.t_add.kp T.b_add pass0 (fa_cons (FE.brw (fe_var 6)) (fa_cons (FE.brw (fe_tup (fa_cons (fe_op op_mulA od_mul (FE.l0 (fe_ix (FE.l0 (fe_var 9)) (FE.brw fe_int))) (FE.brw (fe_var 10))) (fa_cons (fe_op op_mulA od_mul (FE.l0 (fe_ix (FE.l0 (fe_var 9)) (FE.brw fe_int))) (FE.brw (fe_op op_sub od_sub (FE.brw (fe_var 7)) (FE.brw (fe_var 5))))) fa_nil)))) fa_nil)))) (by decide) (by decide)))))))) (fss_one (fs_ret (fe_op op_addA od_add (FE.l0 (fe_callTy call_tuple_of cd_tuple rfl T.z_tuple boot_tuple' (fa_cons (FE.lw (fe_varW 4 (n := 1))) fa_nil))) (FE.l0 (fe_tup (fa_cons (fe_ix (FE.l0 (fe_ix (FE.l0 (fe_var 2)) (FE.brw (fe_neg fe_int)))) (FE.brw fe_int)) fa_nil))))))))))))⟩)
theorem ok_is_poly (T : Tx K mg) : FnOk P w K mg base CX0 4 T.f_is_poly T.d_is_poly ["value"] (spD K 1 0 F_polys_is_poly) :=
  fn_ok (N := N_is_poly) (fl0 := [0, 0]) T.t_is_poly sc_is_poly (fun cdv A outer s H E tp B hr => ⟨[0, 0], (fss_cons (fl1 := [0, 0]) (fs_if (FW.ft (fw_or (ft_not (ft_val (fe_isi "tuple" rfl T.z_isinstance rfl T.z_tuple boot_tuple' (fe_var 0) (.inr (.inr (.inl rfl)))))) (fw_or (ft_cmp op_gt od_gt (FE.brw (fe_callB cr_lenA cd_len rfl T.z_len boot_len' (fa_cons (FE.brw (fe_var 0)) fa_nil))) (FE.brw (fe_op op_addA od_add (FE.l0 (fe_gc T.c_MOST_DEGREE rfl)) (FE.l0 fe_int)))) (fw_or1 (ft_not (ft_val (fe_callB (cr_all rfl) cd_all rfl T.z_all boot_all' (fa_cons (FE.brw (fe_lc (own := [("item", 1)]) (ws := [1]) (fl1 := [0, 0]) (n := 0) rfl sc_is_poly.nd (fi_any (fe_var 0)) (blkOk_by (N := N_is_poly) (sc := (defScope s_is_poly)) (by decide +kernel)) (fun _ _ _ _ _ _ => (fg_name (fl' := [0, 0]) 1 sc_is_poly.nd)) (fun _ _ _ _ _ _ => fts_nil) (fun _ _ _ _ _ _ => (fe_call (ok_is_value T) (hr.mono (by omega)) rfl T.g_is_value T.t_is_value.kp T.b_is_value pass0 (fa_cons (FE.brw (fe_var 1)) fa_nil))) (by decide) (by decide))) fa_nil)))))))) (fss_one (fs_ret fe_bl)) fss_nil) (fss_one (fs_ret (fe_or (fe_cmp (op_eqD hr.units) od_eq (FE.brw (fe_var 0)) (FE.brw (fe_tup fa_nil))) (fe_one (fe_cmp op_isNotA od_isNot (FE.brw (fe_ix (FE.l0 (fe_var 0)) (FE.brw (fe_neg fe_int)))) (FE.brw fe_non)))))))⟩)
theorem ok_check_poly (T : Tx K mg) : FnOk P w K mg base CX0 5 T.f_check_poly T.d_check_poly ["value"] (spD K 1 0 F_polys_check_poly) :=
  fn_ok (N := N_check_poly) (fl0 := [0]) T.t_check_poly sc_check_poly (fun cdv A outer s H E tp B hr => ⟨[0], (fss_one (fs_if (ft_not (ft_val (fe_call (ok_is_poly T) (hr.mono (by omega)) rfl T.g_is_poly T.t_is_poly.kp T.b_is_poly pass0 (fa_cons (FE.brw (fe_var 0)) fa_nil)))) (fss_one fs_never) fss_nil))⟩)
theorem ok_product (T : Tx K mg) : FnOk P w K mg base CX0 6 T.f_product T.d_product ["one", "other"] (spD K 2 0 F_polys_product) :=
  fn_ok (N := N_product) (fl0 := [0, 0, 0, 0, 0, 0, 0]) T.t_product sc_product (fun cdv A outer s H E tp B hr => ⟨[0, 0, 0, 0, 0, 0, 0], (fss_cons (fl1 := [0, 0, 0, 0, 0, 0, 0]) (fs_expr (fe_call (ok_check_poly T) (hr.mono (by omega)) rfl T.g_check_poly T.t_check_poly.kp T.b_check_poly pass0 (fa_cons (FE.brw (fe_var 0)) fa_nil))) (fss_cons (fl1 := [0, 0, 0, 0, 0, 0, 0]) (fs_expr (fe_call (ok_check_poly T) (hr.mono (by omega)) rfl T.g_check_poly T.t_check_poly.kp T.b_check_poly pass0 (fa_cons (FE.brw (fe_var 1)) fa_nil))) (fss_cons (fl1 := [0, 0, 0, 0, 0, 0, 0]) (fs_if (FW.ft (fw_or (ft_cmp (op_eqD hr.units) od_eq (FE.brw (fe_var 0)) (FE.brw (fe_tup fa_nil))) (fw_or1 (ft_cmp (op_eqD hr.units) od_eq (FE.brw (fe_var 1)) (FE.brw (fe_tup fa_nil)))))) (fss_one (fs_ret (fe_tup fa_nil))) fss_nil) (fss_cons (fl1 := [0, 0, 0, 0, 0, 0, 0]) (fs_if (ft_cmp op_gt od_gt (FE.brw (fe_op op_sub od_sub (FE.brw (fe_op op_addA od_add (FE.l0 (fe_callB cr_lenA cd_len rfl T.z_len boot_len' (fa_cons (FE.brw (fe_var 0)) fa_nil))) (FE.l0 (fe_callB cr_lenA cd_len rfl T.z_len boot_len' (fa_cons (FE.brw (fe_var 1)) fa_nil))))) (FE.brw fe_int))) (FE.brw (fe_gc T.c_MOST_DEGREE rfl))) (fss_one fs_never) fss_nil) (fss_cons (fl1 := [0, 0, 1, 0, 0, 0, 0]) (fs_set (fl' := [0, 0, 1, 0, 0, 0, 0]) 2 (n := 1) sc_product.nd (fe_op op_rep od_rep (FE.l1 (fe_lst (fa_cons fe_non fa_nil))) (FE.brw (fe_op op_sub od_sub (FE.brw (fe_op op_addA od_add (FE.l0 (fe_callB cr_lenA cd_len rfl T.z_len boot_len' (fa_cons (FE.brw (fe_var 0)) fa_nil))) (FE.l0 (fe_callB cr_lenA cd_len rfl T.z_len boot_len' (fa_cons (FE.brw (fe_var 1)) fa_nil))))) (FE.brw fe_int))))) (fss_cons (fl1 := [0, 0, 1, 0, 0, 0, 0]) (fs_for (ws := [3, 4]) (fl1 := [0, 0, 1, 0, 0, 0, 0]) PassesOwn.never rfl (fi_enum rfl T.z_enumerate (fa_cons (fe_var 0) fa_nil)) (fun _ => (fg_tup rfl (fgs_cons (fg_name (fl' := [0, 0, 1, 0, 0, 0, 0]) 3 sc_product.nd) (fgs_cons (fg_name (fl' := [0, 0, 1, 0, 0, 0, 0]) 4 sc_product.nd) fgs_nil (.inr (by decide))) (.inr (by decide))))) (fun _ => (fss_one (fs_for (ws := [5, 6]) (fl1 := [0, 0, 1, 0, 0, 0, 0]) PassesOwn.never rfl (fi_enum rfl T.z_enumerate (fa_cons (fe_var 1) fa_nil)) (fun _ => (fg_tup rfl (fgs_cons (fg_name (fl' := [0, 0, 1, 0, 0, 0, 0]) 5 sc_product.nd) (fgs_cons (fg_name (fl' := [0, 0, 1, 0, 0, 0, 0]) 6 sc_product.nd) fgs_nil (.inr (by decide))) (.inr (by decide))))) (fun _ => (fss_one (fs_setI 2 (n := 0) rfl (fe_call (ok_greater T) (hr.mono (by omega)) rfl T.g_greater T.t_greater.kp T.b_greater pass0 (fa_cons (FE.brw (fe_ix (FE.lw (fe_varW 2 (n := 1))) (FE.brw (fe_op op_addA od_add (FE.l0 (fe_var 3)) (FE.l0 (fe_var 5)))))) (fa_cons (FE.brw (fe_call (ok_plus T) (hr.mono (by omega)) rfl T.g_plus T.t_plus.kp T.b_plus pass0 (fa_cons (FE.brw (fe_var 4)) (fa_cons (FE.brw (fe_var 6)) fa_nil)))) fa_nil))) (fe_op op_addA od_add (FE.l0 (fe_var 3)) (FE.l0 (fe_var 5)))))))))) (fss_one (fs_ret (fe_callTy call_tuple_of cd_tuple rfl T.z_tuple boot_tuple' (fa_cons (FE.lw (fe_varW 2 (n := 1))) fa_nil))))))))))⟩)
theorem ok_value (T : Tx K mg) : FnOk P w K mg base CX0 6 T.f_value T.d_value ["one", "place"] (spD K 2 0 F_polys_value) :=
  fn_ok (N := N_value) (fl0 := [0, 0, 0, 0]) T.t_value sc_value (fun cdv A outer s H E tp B hr => ⟨[0, 0, 0, 0], (fss_cons (fl1 := [0, 0, 0, 0]) (fs_expr (fe_call (ok_check_poly T) (hr.mono (by omega)) rfl T.g_check_poly T.t_check_poly.kp T.b_check_poly pass0 (fa_cons (FE.brw (fe_var 0)) fa_nil))) (fss_one (fs_ret (fe_call (ok_greatest T) (hr.mono (by omega)) rfl T.g_greatest T.t_greatest.kp T.b_greatest pass0 (fa_cons (FE.brw (fe_lc (own := [("k", 2), ("item", 3)]) (ws := [2, 3]) (fl1 := [0, 0, 0, 0]) (n := 0) rfl sc_value.nd (fi_enum rfl T.z_enumerate (fa_cons (fe_var 0) fa_nil)) (blkOk_by (N := N_value) (sc := (defScope s_value)) (by decide +kernel)) (fun _ _ _ _ _ _ => (fg_tup rfl (fgs_cons (fg_name (fl' := [0, 0, 0, 0]) 2 sc_value.nd) (fgs_cons (fg_name (fl' := [0, 0, 0, 0]) 3 sc_value.nd) fgs_nil (.inr (by decide))) (.inr (by decide))))) (fun _ _ _ _ _ _ => fts_nil) (fun _ _ _ _ _ _ => (fe_call (ok_plus T) (hr.mono (by omega)) rfl T.g_plus T.t_plus.kp T.b_plus pass0 (fa_cons (FE.brw (fe_var 3)) (fa_cons (FE.brw (fe_call (ok_times T) (hr.mono (by omega)) rfl T.g_times T.t_times.kp T.b_times pass0 (fa_cons (FE.brw (fe_var 1)) (fa_cons (FE.brw (fe_var 2)) fa_nil)))) fa_nil)))) (by decide) (by decide))) fa_nil)))))⟩)
theorem ok_between (T : Tx K mg) : FnOk P w K mg base CX0 5 T.f_between T.d_between ["low", "first", "high", "last", "place"] (spD K 5 0 F_polys_between) :=
  fn_ok (N := N_between) (fl0 := [0, 0, 0, 0, 0]) T.t_between sc_between (fun cdv A outer s H E tp B hr => ⟨[0, 0, 0, 0, 0], (fss_one (fs_ret (fe_call (ok_plus T) (hr.mono (by omega)) rfl T.g_plus T.t_plus.kp T.b_plus pass0 (fa_cons (FE.brw (fe_var 1)) (fa_cons (FE.brw (fe_call (ok_mean T) (hr.mono (by omega)) rfl T.g_mean T.t_mean.kp T.b_mean pass0 (fa_cons (FE.brw (fe_call (ok_multiply T) (hr.mono (by omega)) rfl T.g_multiply T.t_multiply.kp T.b_multiply pass0 (fa_cons (FE.brw (fe_call (ok_subtract T) (hr.mono (by omega)) rfl T.g_subtract T.t_subtract.kp T.b_subtract pass0 (fa_cons (FE.brw (fe_var 3)) (fa_cons (FE.brw (fe_var 1)) fa_nil)))) (fa_cons (FE.brw (fe_tup (fa_cons (fe_op op_sub od_sub (FE.brw (fe_var 4)) (FE.brw (fe_var 0))) (fa_cons fe_int fa_nil)))) fa_nil)))) (fa_cons (FE.brw (fe_op op_sub od_sub (FE.brw (fe_var 2)) (FE.brw (fe_var 0)))) fa_nil)))) fa_nil)))))⟩)
theorem ok_full (T : Tx K mg) : FnOk P w K mg base CX0 6 T.f_full T.d_full ["one"] (spD K 1 0 F_polys_full) :=
  fn_ok (N := N_full) (fl0 := [0, 0, 0, 0, 0, 0, 0, 0]) T.t_full sc_full (fun cdv A outer s H E tp B hr => ⟨[0, 0, 0, 0, 0, 0, 0, 0], (fss_cons (fl1 := [0, 0, 0, 0, 0, 0, 0, 0]) (fs_expr (fe_call (ok_check_poly T) (hr.mono (by omega)) rfl T.g_check_poly T.t_check_poly.kp T.b_check_poly pass0 (fa_cons (FE.brw (fe_var 0)) fa_nil))) (fss_cons (fl1 := [0, 0, 1, 0, 0, 0, 0, 0]) (fs_setLc (fl' := [0, 0, 1, 0, 0, 0, 0, 0]) (own := [("k", 1), ("item", 7)]) (ws := [1, 7]) (fl1 := [0, 0, 0, 0, 0, 0, 0, 0]) (n := 0) rfl sc_full.nd rfl rfl (sw_true rfl rfl rfl (by decide +kernel)) (fi_enum rfl T.z_enumerate (fa_cons (fe_var 0) fa_nil)) (blkOk_by (N := N_full) (sc := (defScope s_full)) (by decide +kernel)) (fun _ _ _ _ _ _ => (fg_tup rfl (fgs_cons (fg_name (fl' := [0, 0, 0, 0, 0, 0, 0, 0]) 1 sc_full.nd) (fgs_cons (fg_name (fl' := [0, 0, 0, 0, 0, 0, 0, 0]) 7 sc_full.nd) fgs_nil (.inr (by decide))) (.inr (by decide))))) (fun _ _ _ _ _ _ => (fts_one (ft_cmp op_isNotA od_isNot (FE.brw (fe_var 7)) (FE.brw fe_non)))) (fun _ _ _ _ _ _ => (fe_var 1)) (by decide) (by decide)) (fss_cons (fl1 := [0, 0, 1, 1, 0, 0, 0, 0]) (fs_set (fl' := [0, 0, 1, 1, 0, 0, 0, 0]) 3 (n := 1) sc_full.nd (fe_lst fa_nil)) (FSs.weak0 2 (fss_cons (fl1 := [0, 0, 0, 1, 0, 0, 0, 0]) (fs_for (ws := [1]) (fl1 := [0, 0, 0, 1, 0, 0, 0, 0]) PassesOwn.never rfl (fi_range1 rfl T.z_range (fa_cons (FE.brw (fe_callB cr_lenA cd_len rfl T.z_len boot_len' (fa_cons (FE.brw (fe_var 0)) fa_nil))) fa_nil)) (fun _ => (fg_name (fl' := [0, 0, 0, 1, 0, 0, 0, 0]) 1 sc_full.nd)) (fun _ => (fss_cons (fl1 := [0, 0, 0, 1, 0, 0, 0, 0]) (fs_set (fl' := [0, 0, 0, 1, 0, 0, 0, 0]) 4 (n := 0) sc_full.nd (fe_ix (FE.l0 (fe_var 0)) (FE.brw (fe_var 1)))) (fss_cons (fl1 := [0, 0, 0, 1, 0, 0, 0, 0]) (fs_for (ws := [5]) (fl1 := [0, 0, 0, 1, 0, 0, 0, 0]) PassesOwn.never rfl (fi_any (fe_var 2)) (fun _ => (fg_name (fl' := [0, 0, 0, 1, 0, 0, 0, 0]) 5 sc_full.nd)) (fun _ => (fss_one (fs_for (ws := [6]) (fl1 := [0, 0, 0, 1, 0, 0, 0, 0]) PassesOwn.never rfl (fi_any (fe_var 2)) (fun _ => (fg_name (fl' := [0, 0, 0, 1, 0, 0, 0, 0]) 6 sc_full.nd)) (fun _ => (fss_one (fs_if (FW.ft (fw_and (ft_cmp op_lt od_lt (FE.brw (fe_var 5)) (FE.brw (fe_var 1))) (fw_and1 (ft_cmp op_lt od_lt (FE.brw (fe_var 1)) (FE.brw (fe_var 6)))))) (fss_one (fs_set (fl' := [0, 0, 0, 1, 0, 0, 0, 0]) 4 (n := 0) sc_full.nd (fe_call (ok_greater T) (hr.mono (by omega)) rfl T.g_greater T.t_greater.kp T.b_greater pass0 (fa_cons (FE.brw (fe_var 4)) (fa_cons (FE.brw (fe_call (ok_between T) (hr.mono (by omega)) rfl T.g_between T.t_between.kp T.b_between pass0 (fa_cons (FE.brw (fe_var 5)) (fa_cons (FE.brw (fe_ix (FE.l0 (fe_var 0)) (FE.brw (fe_var 5)))) (fa_cons (FE.brw (fe_var 6)) (fa_cons (FE.brw (fe_ix (FE.l0 (fe_var 0)) (FE.brw (fe_var 6)))) (fa_cons (FE.brw (fe_var 1)) fa_nil))))))) fa_nil))))) fss_nil))))))) (fss_one (fs_append 3 (n := 0) rfl (fe_var 4))))))) (fss_one (fs_ret (fe_callTy call_tuple_of cd_tuple rfl T.z_tuple boot_tuple' (fa_cons (FE.lw (fe_varW 3 (n := 1))) fa_nil)))))))))⟩)
theorem ok_is_full (T : Tx K mg) : FnOk P w K mg base CX0 7 T.f_is_full T.d_is_full ["one"] (spD K 1 0 F_polys_is_full) :=
  fn_ok (N := N_is_full) (fl0 := [0]) T.t_is_full sc_is_full (fun cdv A outer s H E tp B hr => ⟨[0], (fss_one (fs_ret (fe_cmp (op_eqD hr.units) od_eq (FE.brw (fe_call (ok_full T) (hr.mono (by omega)) rfl T.g_full T.t_full.kp T.b_full pass0 (fa_cons (FE.brw (fe_var 0)) fa_nil))) (FE.brw (fe_var 0)))))⟩)
theorem ok_sorted_pairs (T : Tx K mg) : FnOk P w K mg base CX0 3 T.f_sorted_pairs T.d_sorted_pairs ["pairs"] (spD K 1 1 F_polys_sorted_pairs) :=
  fn_ok (N := N_sorted_pairs) (fl0 := [0, 0, 0, 0, 0]) T.t_sorted_pairs sc_sorted_pairs (fun cdv A outer s H E tp B hr => ⟨[0, 0, 0, 0, 0], (fss_cons (fl1 := [0, 1, 0, 0, 0]) (fs_set (fl' := [0, 1, 0, 0, 0]) 1 (n := 1) sc_sorted_pairs.nd (fe_lst fa_nil)) (fss_cons (fl1 := [0, 1, 0, 0, 0]) (fs_for (ws := [2]) (fl1 := [0, 1, 0, 0, 0]) PassesOwn.never rfl (fi_any (fe_var 0)) (fun _ => (fg_name (fl' := [0, 1, 0, 0, 0]) 2 sc_sorted_pairs.nd)) (fun _ => (FSs.weak0 1 (fss_cons (fl1 := [0, 0, 0, 0, 0]) (fs_set (fl' := [0, 0, 0, 0, 0]) 3 (n := 0) sc_sorted_pairs.nd (fe_callB cr_lenA cd_len rfl T.z_len boot_len' (fa_cons (FE.brw (fe_lc (own := [("one", 4)]) (ws := [4]) (fl1 := [0, 0, 0, 0, 0]) (n := 0) rfl sc_sorted_pairs.nd (fi_any (fe_var 1)) (blkOk_by (N := N_sorted_pairs) (sc := (defScope s_sorted_pairs)) (by decide +kernel)) (fun _ _ _ _ _ _ => (fg_name (fl' := [0, 0, 0, 0, 0]) 4 sc_sorted_pairs.nd)) (fun _ _ _ _ _ _ => (fts_one (ft_val (fe_call (ok_is_less T) (hr.mono (by omega)) rfl T.g_is_less T.t_is_less.kp T.b_is_less pass0 (fa_cons (FE.brw (fe_ix (FE.l0 (fe_var 4)) (FE.brw fe_int))) (fa_cons (FE.brw (fe_ix (FE.l0 (fe_var 2)) (FE.brw fe_int))) fa_nil)))))) (fun _ _ _ _ _ _ => (fe_var 4)) (by decide) (by decide))) fa_nil))) (fss_one (fs_set (fl' := [0, 1, 0, 0, 0]) 1 (n := 1) sc_sorted_pairs.nd (fe_op op_cat od_cat (FE.l1 (fe_op op_cat od_cat (FE.l1 (fe_slL (FE.l0 (fe_var 1)) fo_none (fo_some (fe_var 3)))) (FE.l1 (fe_lst (fa_cons (fe_var 2) fa_nil))))) (FE.l1 (fe_slL (FE.l0 (fe_var 1)) (fo_some (fe_var 3)) fo_none))))))))) (fss_one (fs_retW (fe_varW 1 (n := 1))))))⟩)
theorem ok_corners (T : Tx K mg) : FnOk P w K mg base CX0 7 T.f_corners T.d_corners ["one"] (spD K 1 0 F_polys_corners) :=
  fn_ok (N := N_corners) (fl0 := [0, 0, 0, 0, 0, 0, 0]) T.t_corners sc_corners (fun cdv A outer s H E tp B hr => ⟨[0, 0, 0, 0, 0, 0, 0], (fss_cons (fl1 := [0, 0, 0, 0, 0, 0, 0]) (fs_if (ft_cmp (op_eqD hr.units) od_eq (FE.brw (fe_var 0)) (FE.brw (fe_tup fa_nil))) (fss_one fs_never) fss_nil) (fss_cons (fl1 := [0, 0, 0, 0, 0, 0, 0]) (fs_set (fl' := [0, 0, 0, 0, 0, 0, 0]) 1 (n := 0) sc_corners.nd (fe_call (ok_full T) (hr.mono (by omega)) rfl T.g_full T.t_full.kp T.b_full pass0 (fa_cons (FE.brw (fe_var 0)) fa_nil))) (fss_cons (fl1 := [0, 0, 0, 0, 0, 0, 0]) (fs_set (fl' := [0, 0, 0, 0, 0, 0, 0]) 3 (n := 0) sc_corners.nd (fe_ix (FE.l1 (fe_lc (own := [("k", 2), ("item", 6)]) (ws := [2, 6]) (fl1 := [0, 0, 0, 0, 0, 0, 0]) (n := 0) rfl sc_corners.nd (fi_enum rfl T.z_enumerate (fa_cons (fe_var 1) fa_nil)) (blkOk_by (N := N_corners) (sc := (defScope s_corners)) (by decide +kernel)) (fun _ _ _ _ _ _ => (fg_tup rfl (fgs_cons (fg_name (fl' := [0, 0, 0, 0, 0, 0, 0]) 2 sc_corners.nd) (fgs_cons (fg_name (fl' := [0, 0, 0, 0, 0, 0, 0]) 6 sc_corners.nd) fgs_nil (.inr (by decide))) (.inr (by decide))))) (fun _ _ _ _ _ _ => (fts_one (ft_cmp op_isNotA od_isNot (FE.brw (fe_var 6)) (FE.brw fe_non)))) (fun _ _ _ _ _ _ => (fe_var 2)) (by decide) (by decide))) (FE.brw fe_int))) (fss_cons (fl1 := [0, 0, 0, 0, 1, 0, 0]) (fs_set (fl' := [0, 0, 0, 0, 1, 0, 0]) 4 (n := 1) sc_corners.nd (fe_if (ft_cmp op_gt od_gt (FE.brw (fe_var 3)) (FE.brw fe_int)) (fe_lst (fa_cons (fe_tup (fa_cons fe_non (fa_cons (fe_var 3) fa_nil))) fa_nil)) (fe_lst fa_nil))) (fss_cons (fl1 := [0, 0, 0, 0, 1, 0, 0]) (fs_for (ws := [2]) (fl1 := [0, 0, 0, 0, 1, 0, 0]) PassesOwn.never rfl (fi_rangeD rfl T.z_range (fa_cons (FE.brw (fe_op op_sub od_sub (FE.brw (fe_callB cr_lenA cd_len rfl T.z_len boot_len' (fa_cons (FE.brw (fe_var 1)) fa_nil))) (FE.brw fe_int))) (fa_cons (FE.brw (fe_var 3)) (fa_cons (FE.brw (fe_neg fe_int)) fa_nil)))) (fun _ => (fg_name (fl' := [0, 0, 0, 0, 1, 0, 0]) 2 sc_corners.nd)) (fun _ => (fss_cons (fl1 := [0, 0, 0, 0, 1, 0, 0]) (fs_set (fl' := [0, 0, 0, 0, 1, 0, 0]) 5 (n := 0) sc_corners.nd (fe_call (ok_subtract T) (hr.mono (by omega)) rfl T.g_subtract T.t_subtract.kp T.b_subtract pass0 (fa_cons (FE.brw (fe_ix (FE.l0 (fe_var 1)) (FE.brw (fe_op op_sub od_sub (FE.brw (fe_var 2)) (FE.brw fe_int))))) (fa_cons (FE.brw (fe_ix (FE.l0 (fe_var 1)) (FE.brw (fe_var 2)))) fa_nil)))) (fss_one (fs_if (FW.ft (fw_and (ft_cmp (op_neD hr.units) od_ne (FE.brw (fe_varW 4 (n := 1))) (FE.brw (fe_lst fa_nil))) (fw_and1 (ft_cmp (op_eqD hr.units) od_eq (FE.brw (fe_ix (FE.l0 (fe_ix (FE.lw (fe_varW 4 (n := 1))) (FE.brw (fe_neg fe_int)))) (FE.brw fe_int))) (FE.brw (fe_var 5)))))) (fss_one (fs_setI 4 (n := 0) rfl (fe_tup (fa_cons (fe_var 5) (fa_cons (fe_op op_addA od_add (FE.l0 (fe_ix (FE.l0 (fe_ix (FE.lw (fe_varW 4 (n := 1))) (FE.brw (fe_neg fe_int)))) (FE.brw fe_int))) (FE.l0 fe_int)) fa_nil))) (fe_neg fe_int))) (fss_one (fs_append 4 (n := 0) rfl (fe_tup (fa_cons (fe_var 5) (fa_cons fe_int fa_nil)))))))))) (fss_one (fs_ret (fe_if (ft_cmp op_gt od_gt (FE.brw (fe_var 3)) (FE.brw fe_int)) (fe_callTy call_tuple_of cd_tuple rfl T.z_tuple boot_tuple' (fa_cons (FE.l1 (fe_op op_cat od_cat (FE.l1 (fe_slL (FE.lw (fe_varW 4 (n := 1))) fo_none (fo_some fe_int))) (FE.l1 (fe_call (ok_sorted_pairs T) (hr.mono (by omega)) rfl T.g_sorted_pairs T.t_sorted_pairs.kp T.b_sorted_pairs pass0 (fa_cons (FE.brw (fe_slL (FE.lw (fe_varW 4 (n := 1))) (fo_some fe_int) fo_none)) fa_nil))))) fa_nil)) (fe_callTy call_tuple_of cd_tuple rfl T.z_tuple boot_tuple' (fa_cons (FE.l1 (fe_call (ok_sorted_pairs T) (hr.mono (by omega)) rfl T.g_sorted_pairs T.t_sorted_pairs.kp T.b_sorted_pairs pass0 (fa_cons (FE.brw (fe_varW 4 (n := 1))) fa_nil))) fa_nil))))))))))⟩)
theorem ok_from_corners (T : Tx K mg) : FnOk P w K mg base CX0 7 T.f_from_corners T.d_from_corners ["lead", "pairs"] (spD K 2 0 F_polys_from_corners) :=
  fn_ok (N := N_from_corners) (fl0 := [0, 0, 0, 0, 0, 0]) T.t_from_corners sc_from_corners (fun cdv A outer s H E tp B hr => ⟨[0, 0, 0, 0, 0, 0], (fss_cons (fl1 := [0, 0, 0, 0, 0, 0]) (fs_set (fl' := [0, 0, 0, 0, 0, 0]) 2 (n := 0) sc_from_corners.nd (fe_tup (fa_cons (fe_var 0) fa_nil))) (fss_cons (fl1 := [0, 0, 0, 0, 0, 0]) (fs_for (ws := [3, 4]) (fl1 := [0, 0, 0, 0, 0, 0]) PassesOwn.never rfl (fi_any (fe_var 1)) (fun _ => (fg_tup rfl (fgs_cons (fg_name (fl' := [0, 0, 0, 0, 0, 0]) 3 sc_from_corners.nd) (fgs_cons (fg_name (fl' := [0, 0, 0, 0, 0, 0]) 4 sc_from_corners.nd) fgs_nil (.inr (by decide))) (.inr (by decide))))) (fun _ => (fss_one (fs_for (ws := [5]) (fl1 := [0, 0, 0, 0, 0, 0]) PassesOwn.never rfl (fi_range1 rfl T.z_range (fa_cons (FE.brw (fe_var 4)) fa_nil)) (fun _ => (fg_name (fl' := [0, 0, 0, 0, 0, 0]) 5 sc_from_corners.nd)) (fun _ => (fss_one (fs_set (fl' := [0, 0, 0, 0, 0, 0]) 2 (n := 0) sc_from_corners.nd (fe_call (ok_product T) (hr.mono (by omega)) rfl T.g_product T.t_product.kp T.b_product pass0 (fa_cons (FE.brw (fe_var 2)) (fa_cons (FE.brw (fe_tup (fa_cons (fe_var 3) (fa_cons (fe_gc T.c_ZERO rfl) fa_nil)))) fa_nil)))))))))) (fss_one (fs_ret (fe_var 2)))))⟩)
theorem ok__law_tape (T : Tx K mg) : FnOk P w K mg base CX0 1 T.f__law_tape T.d__law_tape ["script"] (spTape K) :=
  T.t__law_tape.ok sc__law_tape (fun vs H Q E ⟨a, ns, h1, h2, h3, h4⟩ => by rw [h1]; rfl) (fun cdv A outer s H vs Q E hr h => ⟨tTape K,
    (pss_cons (ps_set sc__law_tape.nd rfl (Or.inl rfl) pe_int)
    (pss_cons (ps_for PassesOwn.never rfl (pi_list (pe_var rfl (Or.inl rfl))) (pg_name sc__law_tape.nd rfl (Or.inl rfl)) (pss_one (ps_set sc__law_tape.nd rfl (Or.inl rfl) (pe_op op_mod (pe_callTy call_int1 rfl T.z_int boot_int' (pa_cons (pe_op op_add (pe_op op_mulW (pe_var rfl (Or.inl rfl)) pe_int) (pe_var rfl (Or.inl rfl))) pa_nil)) pe_int))))
    (pss_one (ps_ret (pe_lst (pa_cons (pe_lc (own := [("cell", 2)]) rfl sc__law_tape.nd (pi_list (pe_var rfl (Or.inl rfl))) (blkOk_by (N := N__law_tape) (sc := defScope s__law_tape) (by decide +kernel)) (fun _ _ _ _ _ => pg_name sc__law_tape.nd rfl (Or.inl rfl)) (fun _ _ _ _ _ => pts_nil)
      (fun _ _ _ _ _ => pe_callB call_abs rfl T.z_abs boot_abs' (pa_cons (pe_callTy call_int1 rfl T.z_int boot_int' (pa_cons (pe_var rfl (Or.inl rfl)) pa_nil)) pa_nil)))
      (pa_cons (pe_op op_add (pe_var rfl (Or.inl rfl)) pe_int) pa_nil))))))), tape_run h rfl⟩)
theorem ok__law_draw (T : Tx K mg) : FnOk P w K mg base CX0 1 T.f__law_draw T.d__law_draw ["tape", "many"] (spD K 2 0 F_draw) :=
  T.t__law_draw.ok sc__law_draw (fun vs H Q E ⟨tp, t, ds, d, t', h1, h2, h3, h4, h5⟩ => by rw [h3.1, h2]; rfl) (fun cdv A outer s H vs Q E hr h => ⟨tDraw K,
    (pss_cons (ps_set sc__law_draw.nd rfl (Or.inl rfl) (pe_ix ix_seq (pe_var rfl (Or.inl rfl)) pe_int (fun _ _ => rfl)))
    (pss_cons (ps_while PassesOwn.never (PW.pt (pw_and (pt_cmp (pc_gt (pe_callB cr_lenA rfl T.z_len boot_len' (pa_cons (pe_var rfl (Or.inl rfl)) pa_nil)) pe_int)) (pw_and1 (pt_cmp (pc_eqI (pe_ix ix_seq (pe_var rfl (Or.inl rfl)) pe_int (fun _ _ => rfl)) pe_int)))))
      (pss_one (ps_expr (pe_bm PySem.F.plainAttrs_list PySem.F.slot_list_pop PySem.F.type_list_pop mt_popAt (pe_var rfl (Or.inl rfl)) (pa_cons pe_int pa_nil)))))
    (pss_cons (ps_if (pt_cmp (pc_gt (pe_callB cr_lenA rfl T.z_len boot_len' (pa_cons (pe_var rfl (Or.inl rfl)) pa_nil)) pe_int))
      (pss_cons (ps_set sc__law_draw.nd rfl (Or.inl rfl) (pe_ix ix_seq (pe_var rfl (Or.inl rfl)) pe_int (fun _ _ => rfl)))
      (pss_cons (ps_asg (pe_op op_fdivW (pe_var rfl (Or.inl rfl)) (pe_var rfl (Or.inl rfl))) (pg_sub (pe_var rfl (Or.inl rfl)) pe_int set_list))
      (pss_one (ps_ret (pe_op op_mod (pe_callTy call_int1 rfl T.z_int boot_int' (pa_cons (pe_var rfl (Or.inl rfl)) pa_nil)) (pe_var rfl (Or.inl rfl))))))) pss_nil)
    (pss_cons (ps_asg (pe_op op_mod (pe_callTy call_int1 rfl T.z_int boot_int' (pa_cons (pe_op op_add (pe_op op_mulW (pe_ix ix_seq (pe_var rfl (Or.inl rfl)) pe_int (fun _ _ => rfl)) pe_int) pe_int) pa_nil)) pe_int) (pg_sub (pe_var rfl (Or.inl rfl)) pe_int set_list))
    (pss_one (ps_ret (pe_op op_mod (pe_callTy call_int1 rfl T.z_int boot_int' (pa_cons (pe_op op_fdivW (pe_ix ix_seq (pe_var rfl (Or.inl rfl)) pe_int (fun _ _ => rfl)) pe_int) pa_nil)) (pe_var rfl (Or.inl rfl))))))))), draw_run h rfl⟩)
theorem ok__law_pick (T : Tx K mg) : FnOk P w K mg base CX0 2 T.f__law_pick T.d__law_pick ["tape", "row"] (spD K 2 0 F_law_pick) :=
  fn_ok (N := N__law_pick) (fl0 := [0, 0]) T.t__law_pick sc__law_pick (fun cdv A outer s H E tp B hr => ⟨[0, 0], (fss_one (fs_ret (fe_ix (FE.l0 (fe_var 1)) (FE.brw (fe_call (ok__law_draw T) (hr.mono (by omega)) rfl T.g__law_draw T.t__law_draw.kp T.b__law_draw pass0 (fa_cons (FE.brw (fe_var 0)) (fa_cons (FE.brw (fe_callB cr_lenA cd_len rfl T.z_len boot_len' (fa_cons (FE.brw (fe_var 1)) fa_nil))) fa_nil)))))))⟩)
theorem ok__law_same_n (T : Tx K mg) : ∀ n : Nat, FnOk P w K mg base CX0 (0 + n) T.f__law_same T.d__law_same ["actual", "due"] (spD K 2 0 (F_law_same_n n))
  | 0 => ⟨fun vs H Q E ⟨tp, t, ds, d, t', h1, h2, h3, h4, h5⟩ => by rw [h3.1, h2]; rfl, fun A outer s H args us vs Q E hr e0 hb hv ⟨tp, t, ds, d, t', h1, h2, h3, h4, h5⟩ => by cases h4⟩
  | n + 1 => by
    have F_rec : FnOk P w K mg base CX0 (0 + n) T.f__law_same T.d__law_same ["actual", "due"] (spD K 2 0 (F_law_same_n n)) := ok__law_same_n T n
    exact fn_ok (N := N__law_same) (fl0 := [0, 0, 0]) T.t__law_same sc__law_same (fun cdv A outer s H E tp B hr => ⟨[0, 0, 0], (fss_cons (fl1 := [0, 0, 0]) (fs_if (ft_cmp op_isA od_is (FE.brw (fe_var 1)) (FE.brw fe_non)) (fss_one (fs_ret (fe_cmp op_isA od_is (FE.brw (fe_var 0)) (FE.brw fe_non)))) fss_nil) (fss_cons (fl1 := [0, 0, 0]) (fs_if (ft_val (fe_isi "bool" rfl T.z_isinstance rfl T.z_bool boot_bool' (fe_var 1) (.inr (.inl rfl)))) (fss_one (fs_ret (fe_and (fe_isi "bool" rfl T.z_isinstance rfl T.z_bool boot_bool' (fe_var 0) (.inr (.inl rfl))) (fe_one (fe_cmp (op_eqD hr.units) od_eq (FE.brw (fe_var 0)) (FE.brw (fe_var 1))))))) fss_nil) (fss_cons (fl1 := [0, 0, 0]) (fs_if (ft_val (fe_isi "tuple" rfl T.z_isinstance rfl T.z_tuple boot_tuple' (fe_var 1) (.inr (.inr (.inl rfl))))) (fss_cons (fl1 := [0, 0, 0]) (fs_if (FW.ft (fw_or (ft_not (ft_val (fe_isi "tuple" rfl T.z_isinstance rfl T.z_tuple boot_tuple' (fe_var 0) (.inr (.inr (.inl rfl)))))) (fw_or1 (ft_cmp (op_neD hr.units) od_ne (FE.brw (fe_callB cr_lenA cd_len rfl T.z_len boot_len' (fa_cons (FE.brw (fe_var 0)) fa_nil))) (FE.brw (fe_callB cr_lenA cd_len rfl T.z_len boot_len' (fa_cons (FE.brw (fe_var 1)) fa_nil))))))) (fss_one (fs_ret fe_bl)) fss_nil) (fss_one (fs_ret (fe_callB (cr_all rfl) cd_all rfl T.z_all boot_all' (fa_cons (FE.brw (fe_lc (own := [("k", 2)]) (ws := [2]) (fl1 := [0, 0, 0]) (n := 0) rfl sc__law_same.nd (fi_range1 rfl T.z_range (fa_cons (FE.brw (fe_callB cr_lenA cd_len rfl T.z_len boot_len' (fa_cons (FE.brw (fe_var 1)) fa_nil))) fa_nil)) (blkOk_by (N := N__law_same) (sc := (defScope s__law_same)) (by decide +kernel)) (fun _ _ _ _ _ _ => (fg_name (fl' := [0, 0, 0]) 2 sc__law_same.nd)) (fun _ _ _ _ _ _ => fts_nil) (fun _ _ _ _ _ _ => (fe_call F_rec (hr.mono (Nat.le_refl _)) rfl T.g__law_same T.t__law_same.kp T.b__law_same pass0 (fa_cons (FE.brw (fe_ix (FE.l0 (fe_var 0)) (FE.brw (fe_var 2)))) (fa_cons (FE.brw (fe_ix (FE.l0 (fe_var 1)) (FE.brw (fe_var 2)))) fa_nil)))) (by decide) (by decide))) fa_nil))))) fss_nil) (fss_cons (fl1 := [0, 0, 0]) (fs_if (ft_val (fe_isi "str" rfl T.z_isinstance rfl T.z_str boot_str' (fe_var 1) (.inr (.inr (.inr rfl))))) (fss_one (fs_ret (fe_and (fe_isi "str" rfl T.z_isinstance rfl T.z_str boot_str' (fe_var 0) (.inr (.inr (.inr rfl)))) (fe_one (fe_cmp (op_eqD hr.units) od_eq (FE.brw (fe_var 0)) (FE.brw (fe_var 1))))))) fss_nil) (fss_one (fs_ret (fe_and (fe_isi "int" rfl T.z_isinstance rfl T.z_int boot_int' (fe_var 0) (.inl rfl)) (fe_and (fe_not (fe_isi "bool" rfl T.z_isinstance rfl T.z_bool boot_bool' (fe_var 0) (.inr (.inl rfl)))) (fe_one (fe_cmp (op_eqD hr.units) od_eq (FE.brw (fe_var 0)) (FE.brw (fe_var 1))))))))))))⟩)
theorem ok__law_same (T : Tx K mg) : FnOk P w K mg base CX0 7 T.f__law_same T.d__law_same ["actual", "due"] (spD K 2 0 F_law_same) := ok__law_same_n T 7
theorem ok__law_frac (T : Tx K mg) : FnOk P w K mg base CX0 1 T.f__law_frac T.d__law_frac ["above", "below"] (spD K 2 0 F_law_frac) :=
  fn_ok (N := N__law_frac) (fl0 := [0, 0, 0, 0]) T.t__law_frac sc__law_frac (fun cdv A outer s H E tp B hr => ⟨[0, 0, 0, 0], (fss_cons (fl1 := [0, 0, 0, 0]) (fs_par2 (fl' := [0, 0, 0, 0]) 2 3 (n1 := 0) (n2 := 0) rfl sc__law_frac.nd (fe_callB call_abs cd_abs rfl T.z_abs boot_abs' (fa_cons (FE.brw (fe_var 0)) fa_nil)) (fe_callB call_abs cd_abs rfl T.z_abs boot_abs' (fa_cons (FE.brw (fe_var 1)) fa_nil)) (by rfl)) (fss_cons (fl1 := [0, 0, 0, 0]) (fs_while (fun ρ _ => match ρ[3]? with | some (some (D.int o)) => o.toNat + 1 | _ => 0) PassesOwn.never (ft_cmp op_gt od_gt (FE.brw (fe_var 3)) (FE.brw fe_int)) (fss_one (fs_par2 (fl' := [0, 0, 0, 0]) 2 3 (n1 := 0) (n2 := 0) rfl sc__law_frac.nd (fe_var 3) (fe_op op_mod od_mod (FE.brw (fe_var 2)) (FE.brw (fe_var 3))) (by rfl)))) (fss_one (fs_ret (fe_if (ft_cmp op_gt od_gt (FE.brw (fe_var 1)) (FE.brw fe_int)) (fe_tup (fa_cons (fe_op op_divA od_div (FE.brw (fe_var 0)) (FE.brw (fe_var 2))) (fa_cons (fe_op op_divA od_div (FE.brw (fe_var 1)) (FE.brw (fe_var 2))) fa_nil))) (fe_tup (fa_cons (fe_op op_divA od_div (FE.brw (fe_neg (fe_var 0))) (FE.brw (fe_var 2))) (fa_cons (fe_op op_divA od_div (FE.brw (fe_neg (fe_var 1))) (FE.brw (fe_var 2))) fa_nil))))))))⟩)
theorem ok__law_plus (T : Tx K mg) : FnOk P w K mg base CX0 2 T.f__law_plus T.d__law_plus ["one", "other"] (spD K 2 0 F_law_plus) :=
  fn_ok (N := N__law_plus) (fl0 := [0, 0]) T.t__law_plus sc__law_plus (fun cdv A outer s H E tp B hr => ⟨[0, 0], (fss_cons (fl1 := [0, 0]) (fs_if (FW.ft (fw_or (ft_cmp op_isA od_is (FE.brw (fe_var 0)) (FE.brw fe_non)) (fw_or1 (ft_cmp op_isA od_is (FE.brw (fe_var 1)) (FE.brw fe_non))))) (fss_one (fs_ret fe_non)) fss_nil) (fss_one (fs_ret (fe_call (ok__law_frac T) (hr.mono (by omega)) rfl T.g__law_frac T.t__law_frac.kp T.b__law_frac pass0 (fa_cons (FE.brw (fe_op op_addA od_add (FE.l0 (fe_op op_mulA od_mul (FE.l0 (fe_ix (FE.l0 (fe_var 0)) (FE.brw fe_int))) (FE.brw (fe_ix (FE.l0 (fe_var 1)) (FE.brw fe_int))))) (FE.l0 (fe_op op_mulA od_mul (FE.l0 (fe_ix (FE.l0 (fe_var 1)) (FE.brw fe_int))) (FE.brw (fe_ix (FE.l0 (fe_var 0)) (FE.brw fe_int))))))) (fa_cons (FE.brw (fe_op op_mulA od_mul (FE.l0 (fe_ix (FE.l0 (fe_var 0)) (FE.brw fe_int))) (FE.brw (fe_ix (FE.l0 (fe_var 1)) (FE.brw fe_int))))) fa_nil))))))⟩)
theorem ok__law_minus (T : Tx K mg) : FnOk P w K mg base CX0 2 T.f__law_minus T.d__law_minus ["one", "other"] (spD K 2 0 F_law_minus) :=
  fn_ok (N := N__law_minus) (fl0 := [0, 0]) T.t__law_minus sc__law_minus (fun cdv A outer s H E tp B hr => ⟨[0, 0], (fss_one (fs_ret (fe_if (ft_cmp op_isA od_is (FE.brw (fe_var 0)) (FE.brw fe_non)) fe_non (fe_call (ok__law_frac T) (hr.mono (by omega)) rfl T.g__law_frac T.t__law_frac.kp T.b__law_frac pass0 (fa_cons (FE.brw (fe_op op_sub od_sub (FE.brw (fe_op op_mulA od_mul (FE.l0 (fe_ix (FE.l0 (fe_var 0)) (FE.brw fe_int))) (FE.brw (fe_ix (FE.l0 (fe_var 1)) (FE.brw fe_int))))) (FE.brw (fe_op op_mulA od_mul (FE.l0 (fe_ix (FE.l0 (fe_var 1)) (FE.brw fe_int))) (FE.brw (fe_ix (FE.l0 (fe_var 0)) (FE.brw fe_int))))))) (fa_cons (FE.brw (fe_op op_mulA od_mul (FE.l0 (fe_ix (FE.l0 (fe_var 0)) (FE.brw fe_int))) (FE.brw (fe_ix (FE.l0 (fe_var 1)) (FE.brw fe_int))))) fa_nil))))))⟩)
theorem ok__law_times (T : Tx K mg) : FnOk P w K mg base CX0 2 T.f__law_times T.d__law_times ["one", "count"] (spD K 2 0 F_law_times) :=
  fn_ok (N := N__law_times) (fl0 := [0, 0]) T.t__law_times sc__law_times (fun cdv A outer s H E tp B hr => ⟨[0, 0], (fss_one (fs_ret (fe_call (ok__law_frac T) (hr.mono (by omega)) rfl T.g__law_frac T.t__law_frac.kp T.b__law_frac pass0 (fa_cons (FE.brw (fe_op op_mulA od_mul (FE.l0 (fe_ix (FE.l0 (fe_var 0)) (FE.brw fe_int))) (FE.brw (fe_var 1)))) (fa_cons (FE.brw (fe_ix (FE.l0 (fe_var 0)) (FE.brw fe_int))) fa_nil)))))⟩)
theorem ok__law_below (T : Tx K mg) : FnOk P w K mg base CX0 1 T.f__law_below T.d__law_below ["one", "other"] (spD K 2 0 F_law_below) :=
  fn_ok (N := N__law_below) (fl0 := [0, 0]) T.t__law_below sc__law_below (fun cdv A outer s H E tp B hr => ⟨[0, 0], (fss_cons (fl1 := [0, 0]) (fs_if (FW.ft (fw_or (ft_cmp op_isA od_is (FE.brw (fe_var 0)) (FE.brw fe_non)) (fw_or1 (ft_cmp op_isA od_is (FE.brw (fe_var 1)) (FE.brw fe_non))))) (fss_one (fs_ret (fe_and (fe_cmp op_isA od_is (FE.brw (fe_var 0)) (FE.brw fe_non)) (fe_one (fe_cmp op_isNotA od_isNot (FE.brw (fe_var 1)) (FE.brw fe_non)))))) fss_nil) (fss_one (fs_ret (fe_cmp op_lt od_lt (FE.brw (fe_op op_mulA od_mul (FE.l0 (fe_ix (FE.l0 (fe_var 0)) (FE.brw fe_int))) (FE.brw (fe_ix (FE.l0 (fe_var 1)) (FE.brw fe_int))))) (FE.brw (fe_op op_mulA od_mul (FE.l0 (fe_ix (FE.l0 (fe_var 1)) (FE.brw fe_int))) (FE.brw (fe_ix (FE.l0 (fe_var 0)) (FE.brw fe_int)))))))))⟩)
theorem ok__law_number (T : Tx K mg) : FnOk P w K mg base CX0 3 T.f__law_number T.d__law_number ["tape"] (spD K 1 0 F_law_number) :=
  fn_ok (N := N__law_number) (fl0 := [0]) T.t__law_number sc__law_number (fun cdv A outer s H E tp B hr => ⟨[0], (fss_one (fs_ret (fe_call (ok__law_frac T) (hr.mono (by omega)) rfl T.g__law_frac T.t__law_frac.kp T.b__law_frac pass0 (fa_cons (FE.brw (fe_op op_sub od_sub (FE.brw (fe_call (ok__law_draw T) (hr.mono (by omega)) rfl T.g__law_draw T.t__law_draw.kp T.b__law_draw pass0 (fa_cons (FE.brw (fe_var 0)) (fa_cons (FE.brw fe_int) fa_nil)))) (FE.brw fe_int))) (fa_cons (FE.brw (fe_call (ok__law_pick T) (hr.mono (by omega)) rfl T.g__law_pick T.t__law_pick.kp T.b__law_pick pass0 (fa_cons (FE.brw (fe_var 0)) (fa_cons (FE.brw (fe_lst (fa_cons fe_int (fa_cons fe_int (fa_cons fe_int (fa_cons fe_int fa_nil)))))) fa_nil)))) fa_nil)))))⟩)
theorem ok__law_row (T : Tx K mg) : FnOk P w K mg base CX0 4 T.f__law_row T.d__law_row ["tape"] (spD K 1 0 F_law_row) :=
  fn_ok (N := N__law_row) (fl0 := [0, 0, 0, 0, 0, 0, 0]) T.t__law_row sc__law_row (fun cdv A outer s H E tp B hr => ⟨[0, 0, 0, 0, 0, 0, 0], (fss_cons (fl1 := [0, 1, 0, 0, 0, 0, 0]) (fs_set (fl' := [0, 1, 0, 0, 0, 0, 0]) 1 (n := 1) sc__law_row.nd (fe_lst fa_nil)) (fss_cons (fl1 := [0, 1, 0, 0, 0, 0, 0]) (fs_for (ws := [2]) (fl1 := [0, 1, 0, 0, 0, 0, 0]) PassesOwn.never rfl (fi_range1 rfl T.z_range (fa_cons (FE.brw (fe_call (ok__law_draw T) (hr.mono (by omega)) rfl T.g__law_draw T.t__law_draw.kp T.b__law_draw pass0 (fa_cons (FE.brw (fe_var 0)) (fa_cons (FE.brw fe_int) fa_nil)))) fa_nil)) (fun _ => (fg_name (fl' := [0, 1, 0, 0, 0, 0, 0]) 2 sc__law_row.nd)) (fun _ => (fss_cons (fl1 := [0, 1, 0, 0, 0, 0, 0]) (fs_set (fl' := [0, 1, 0, 0, 0, 0, 0]) 3 (n := 0) sc__law_row.nd (fe_call (ok__law_number T) (hr.mono (by omega)) rfl T.g__law_number T.t__law_number.kp T.b__law_number pass0 (fa_cons (FE.brw (fe_var 0)) fa_nil))) (FSs.weak0 1 (fss_cons (fl1 := [0, 0, 0, 0, 0, 0, 0]) (fs_set (fl' := [0, 0, 0, 0, 0, 0, 0]) 4 (n := 0) sc__law_row.nd (fe_callB cr_lenA cd_len rfl T.z_len boot_len' (fa_cons (FE.brw (fe_lc (own := [("one", 6)]) (ws := [6]) (fl1 := [0, 0, 0, 0, 0, 0, 0]) (n := 0) rfl sc__law_row.nd (fi_any (fe_var 1)) (blkOk_by (N := N__law_row) (sc := (defScope s__law_row)) (by decide +kernel)) (fun _ _ _ _ _ _ => (fg_name (fl' := [0, 0, 0, 0, 0, 0, 0]) 6 sc__law_row.nd)) (fun _ _ _ _ _ _ => (fts_one (ft_not (ft_val (fe_call (ok__law_below T) (hr.mono (by omega)) rfl T.g__law_below T.t__law_below.kp T.b__law_below pass0 (fa_cons (FE.brw (fe_var 6)) (fa_cons (FE.brw (fe_var 3)) fa_nil))))))) (fun _ _ _ _ _ _ => (fe_var 6)) (by decide) (by decide))) fa_nil))) (fss_one (fs_set (fl' := [0, 1, 0, 0, 0, 0, 0]) 1 (n := 1) sc__law_row.nd (fe_op op_cat od_cat (FE.l1 (fe_op op_cat od_cat (FE.l1 (fe_slL (FE.l0 (fe_var 1)) fo_none (fo_some (fe_var 4)))) (FE.l1 (fe_lst (fa_cons (fe_var 3) fa_nil))))) (FE.l1 (fe_slL (FE.l0 (fe_var 1)) (fo_some (fe_var 4)) fo_none)))))))))) (fss_cons (fl1 := [0, 1, 0, 0, 0, 0, 0]) (fs_set (fl' := [0, 1, 0, 0, 0, 0, 0]) 5 (n := 0) sc__law_row.nd (fe_tup (fa_cons (fe_call (ok__law_number T) (hr.mono (by omega)) rfl T.g__law_number T.t__law_number.kp T.b__law_number pass0 (fa_cons (FE.brw (fe_var 0)) fa_nil)) fa_nil))) (FSs.weak0 1 (fss_cons (fl1 := [0, 0, 0, 0, 0, 0, 0]) (fs_for (ws := [3]) (fl1 := [0, 0, 0, 0, 0, 0, 0]) PassesOwn.never rfl (fi_any (fe_var 1)) (fun _ => (fg_name (fl' := [0, 0, 0, 0, 0, 0, 0]) 3 sc__law_row.nd)) (fun _ => (fss_one (fs_set (fl' := [0, 0, 0, 0, 0, 0, 0]) 5 (n := 0) sc__law_row.nd (fe_op op_addA od_add (FE.l0 (fe_var 5)) (FE.l0 (fe_tup (fa_cons (fe_call (ok__law_plus T) (hr.mono (by omega)) rfl T.g__law_plus T.t__law_plus.kp T.b__law_plus pass0 (fa_cons (FE.brw (fe_ix (FE.l0 (fe_var 5)) (FE.brw (fe_neg fe_int)))) (fa_cons (FE.brw (fe_var 3)) fa_nil))) fa_nil)))))))) (fss_one (fs_ret (fe_var 5))))))))⟩)
theorem ok__law_corners (T : Tx K mg) : FnOk P w K mg base CX0 3 T.f__law_corners T.d__law_corners ["row"] (spD K 1 0 F_law_corners) :=
  fn_ok (N := N__law_corners) (fl0 := [0, 0, 0, 0, 0]) T.t__law_corners sc__law_corners (fun cdv A outer s H E tp B hr => ⟨[0, 0, 0, 0, 0], (fss_cons (fl1 := [0, 1, 0, 0, 0]) (fs_set (fl' := [0, 1, 0, 0, 0]) 1 (n := 1) sc__law_corners.nd (fe_lst fa_nil)) (fss_cons (fl1 := [0, 1, 0, 0, 0]) (fs_for (ws := [2, 3]) (fl1 := [0, 1, 0, 0, 0]) PassesOwn.never rfl (fi_zip rfl T.z_zip (fa_cons (fe_var 0) (fa_cons (fe_slT (FE.l0 (fe_var 0)) (fo_some fe_int) fo_none) fa_nil))) (fun _ => (fg_tup rfl (fgs_cons (fg_name (fl' := [0, 1, 0, 0, 0]) 2 sc__law_corners.nd) (fgs_cons (fg_name (fl' := [0, 1, 0, 0, 0]) 3 sc__law_corners.nd) fgs_nil (.inr (by decide))) (.inr (by decide))))) (fun _ => (fss_cons (fl1 := [0, 1, 0, 0, 0]) (fs_set (fl' := [0, 1, 0, 0, 0]) 4 (n := 0) sc__law_corners.nd (fe_call (ok__law_minus T) (hr.mono (by omega)) rfl T.g__law_minus T.t__law_minus.kp T.b__law_minus pass0 (fa_cons (FE.brw (fe_var 2)) (fa_cons (FE.brw (fe_var 3)) fa_nil)))) (fss_one (fs_if (FW.ft (fw_and (ft_cmp op_gt od_gt (FE.brw (fe_callB cr_lenA cd_len rfl T.z_len boot_len' (fa_cons (FE.brw (fe_varW 1 (n := 1))) fa_nil))) (FE.brw fe_int)) (fw_and1 (ft_cmp (op_eqD hr.units) od_eq (FE.brw (fe_ix (FE.l0 (fe_ix (FE.lw (fe_varW 1 (n := 1))) (FE.brw (fe_neg fe_int)))) (FE.brw fe_int))) (FE.brw (fe_var 4)))))) (fss_one (fs_setI 1 (n := 0) rfl (fe_tup (fa_cons (fe_var 4) (fa_cons (fe_op op_addA od_add (FE.l0 (fe_ix (FE.l0 (fe_ix (FE.lw (fe_varW 1 (n := 1))) (FE.brw (fe_neg fe_int)))) (FE.brw fe_int))) (FE.l0 fe_int)) fa_nil))) (fe_neg fe_int))) (fss_one (fs_append 1 (n := 0) rfl (fe_tup (fa_cons (fe_var 4) (fa_cons fe_int fa_nil)))))))))) (fss_one (fs_ret (fe_callTy call_tuple_of cd_tuple rfl T.z_tuple boot_tuple' (fa_cons (FE.lw (fe_varW 1 (n := 1))) fa_nil))))))⟩)
noncomputable def m_law : SM :=
  (mSeq (mSet 2 (mCallB gTuple (mCons (mLc (mIter dRange1 (mCons (mOp oAdd (mC (.int 1)) (mCall 2 0 F_draw (mCons (mVar 1) (mCons (mC (.int 3)) mNil)))) mNil)) (gmName 13) mYes (mCall 1 0 F_law_row (mCons (mVar 1) mNil)) [13]) mNil))) (mSeq (mPar2 3 4 (mOp oIx (mVar 2) (mC (.int 0))) (mOp oIx (mVar 2) (mC (.int 0)))) (mSeq (mFor (mIt (mVar 2)) (gmName 5) (mIf (mOr (mTst (mOp oIsNot (mCall 1 0 F_polys_is_full (mCons (mVar 5) mNil)) (mC (.bl true)))) (mOr (mNot (mTst (mCall 2 0 F_law_same (mCons (mCall 1 0 F_polys_corners (mCons (mVar 5) mNil)) (mCons (mCall 1 0 F_law_corners (mCons (mVar 5) mNil)) mNil))))) (mNot (mTst (mCall 2 0 F_law_same (mCons (mCall 2 0 F_polys_from_corners (mCons (mOp oIx (mVar 5) (mUn oNeg (mC (.int 1)))) (mCons (mCall 1 0 F_polys_corners (mCons (mVar 5) mNil)) mNil))) (mCons (mVar 5) mNil))))))) (mRet (mC (.bl false))) mSkip)) (mSeq (mFor (mIt (mSl oSlT (mVar 2) (mO (mC (.int 1))) mNoO)) (gmName 5) (mPar2 3 4 (mCall 2 0 F_polys_product (mCons (mVar 3) (mCons (mVar 5) mNil))) (mCall 2 0 F_concave_summed (mCons (mVar 4) (mCons (mVar 5) mNil))))) (mSeq (mIf (mNot (mTst (mCall 2 0 F_law_same (mCons (mVar 3) (mCons (mVar 4) mNil))))) (mRet (mC (.bl false))) mSkip) (mSeq (mSet 6 (mCallB gTuple (mCons (mLc (mIter dRange1 (mCons (mOp oAdd (mC (.int 1)) (mCall 2 0 F_draw (mCons (mVar 1) (mCons (mC (.int 7)) mNil)))) mNil)) (gmName 13) mYes (mCall 1 0 F_law_number (mCons (mVar 1) mNil)) [13]) mNil))) (mSeq (mIf (mNot (mTst (mCall 2 0 F_law_same (mCons (mCall 1 0 F_polys_full (mCons (mVar 6) mNil)) (mCons (mCall 1 0 F_concave_hull (mCons (mVar 6) mNil)) mNil))))) (mRet (mC (.bl false))) mSkip) (mSeq (mSet 7 (mCall 2 0 F_draw (mCons (mVar 1) (mCons (mCallB gLen (mCons (mVar 3) mNil)) mNil)))) (mSeq (mSet 8 (mCall 2 0 F_concave_shares (mCons (mVar 2) (mCons (mVar 7) mNil)))) (mSeq (mPar2 9 10 (mCall 2 0 F_concave_worth (mCons (mVar 2) (mCons (mVar 8) mNil))) (mCall 2 0 F_concave_price (mCons (mVar 2) (mCons (mVar 7) mNil)))) (mSeq (mIf (mNot (mTst (mCall 2 0 F_law_same (mCons (mVar 9) (mCons (mOp oIx (mVar 3) (mVar 7)) mNil))))) (mRet (mC (.bl false))) mSkip) (mSeq (mFor (mIter dRange1 (mCons (mC (.int 4)) mNil)) (gmName 11) (mSeq (mSet 12 (mCall 1 0 F_law_number (mCons (mVar 1) mNil))) (mIf (mTst (mCall 2 0 F_law_below (mCons (mCall 2 0 F_polys_value (mCons (mVar 3) (mCons (mVar 12) mNil))) (mCons (mCall 2 0 F_law_plus (mCons (mVar 9) (mCons (mCall 2 0 F_law_times (mCons (mVar 12) (mCons (mVar 7) mNil))) mNil))) mNil)))) (mRet (mC (.bl false))) mSkip))) (mSeq (mIf (mTst (mOp oIs (mVar 10) (mC .non))) (mRet (mOp oEq (mCallB gLen (mCons (mVar 3) mNil)) (mC (.int 1)))) mSkip) (mRet (mCall 2 0 F_law_same (mCons (mCall 2 0 F_polys_value (mCons (mVar 3) (mCons (mCall 2 0 F_law_times (mCons (mVar 10) (mCons (mUn oNeg (mC (.int 1))) mNil))) mNil))) (mCons (mCall 2 0 F_law_minus (mCons (mVar 9) (mCons (mCall 2 0 F_law_times (mCons (mVar 10) (mCons (mVar 7) mNil))) mNil))) mNil)))))))))))))))))
theorem ok_law (T : Tx K mg) (plain : ∀ ns : List Int, ns.length ≤ 63 → ∃ t', m_law (lawE 14 1) (tapeOf ns) = some (.rt (.bl true) t')) : FnOk P w K mg base CX0 9 T.f_law T.d_law ["script"] (spLaw K) :=
  fl_law (N := N_law) (i := 1) (fl0 := [0, 0, 0, 0, 0, 0, 0, 0, 0, 0, 0, 0, 0, 0]) T.t_law sc_law (ok__law_tape T) T.t__law_tape.kp T.b__law_tape T.g__law_tape (by decide) rfl rfl (by decide) (fun cdv A outer s H E te h => ps_set sc_law.nd rfl (by first | exact Or.inl rfl | exact Or.inr rfl) h) (fun cdv A outer s H E hr => pe_call (ok__law_tape T) (hr.mono (by decide)) rfl T.g__law_tape T.t__law_tape.kp T.b__law_tape .nil pass0 (pa_cons (pe_var rfl (by first | exact Or.inl rfl | exact Or.inr (Or.inl rfl))) pa_nil)) (fun cdv A outer s H E tp B hr => ⟨[0, 0, 0, 0, 0, 0, 0, 0, 0, 0, 0, 0, 0, 0], (fss_cons (fl1 := [0, 0, 0, 0, 0, 0, 0, 0, 0, 0, 0, 0, 0, 0]) (fs_set (fl' := [0, 0, 0, 0, 0, 0, 0, 0, 0, 0, 0, 0, 0, 0]) 2 (n := 0) sc_law.nd (fe_callTy call_tuple_of cd_tuple rfl T.z_tuple boot_tuple' (fa_cons (FE.l1 (fe_lc (own := [("k", 13)]) (ws := [13]) (fl1 := [0, 0, 0, 0, 0, 0, 0, 0, 0, 0, 0, 0, 0, 0]) (n := 0) rfl sc_law.nd (fi_range1 rfl T.z_range (fa_cons (FE.brw (fe_op op_addA od_add (FE.l0 fe_int) (FE.l0 (fe_call (ok__law_draw T) (hr.mono (by omega)) rfl T.g__law_draw T.t__law_draw.kp T.b__law_draw pass0 (fa_cons (FE.brw (fe_var 1)) (fa_cons (FE.brw fe_int) fa_nil)))))) fa_nil)) (blkOk_by (N := N_law) (sc := (defScope s_law)) (by decide +kernel)) (fun _ _ _ _ _ _ => (fg_name (fl' := [0, 0, 0, 0, 0, 0, 0, 0, 0, 0, 0, 0, 0, 0]) 13 sc_law.nd)) (fun _ _ _ _ _ _ => fts_nil) (fun _ _ _ _ _ _ => (fe_call (ok__law_row T) (hr.mono (by omega)) rfl T.g__law_row T.t__law_row.kp T.b__law_row pass0 (fa_cons (FE.brw (fe_var 1)) fa_nil))) (by decide) (by decide))) fa_nil))) (fss_cons (fl1 := [0, 0, 0, 0, 0, 0, 0, 0, 0, 0, 0, 0, 0, 0]) (fs_par2 (fl' := [0, 0, 0, 0, 0, 0, 0, 0, 0, 0, 0, 0, 0, 0]) 3 4 (n1 := 0) (n2 := 0) rfl sc_law.nd (fe_ix (FE.l0 (fe_var 2)) (FE.brw fe_int)) (fe_ix (FE.l0 (fe_var 2)) (FE.brw fe_int)) (by rfl)) (fss_cons (fl1 := [0, 0, 0, 0, 0, 0, 0, 0, 0, 0, 0, 0, 0, 0]) (fs_for (ws := [5]) (fl1 := [0, 0, 0, 0, 0, 0, 0, 0, 0, 0, 0, 0, 0, 0]) PassesOwn.never rfl (fi_any (fe_var 2)) (fun _ => (fg_name (fl' := [0, 0, 0, 0, 0, 0, 0, 0, 0, 0, 0, 0, 0, 0]) 5 sc_law.nd)) (fun _ => (fss_one (fs_if (FW.ft (fw_or (ft_cmp op_isNotA od_isNot (FE.brw (fe_call (ok_is_full T) (hr.mono (by omega)) rfl T.g_is_full T.t_is_full.kp T.b_is_full pass0 (fa_cons (FE.brw (fe_var 5)) fa_nil))) (FE.brw fe_bl)) (fw_or (ft_not (ft_val (fe_call (ok__law_same T) (hr.mono (by omega)) rfl T.g__law_same T.t__law_same.kp T.b__law_same pass0 (fa_cons (FE.brw (fe_call (ok_corners T) (hr.mono (by omega)) rfl T.g_corners T.t_corners.kp T.b_corners pass0 (fa_cons (FE.brw (fe_var 5)) fa_nil))) (fa_cons (FE.brw (fe_call (ok__law_corners T) (hr.mono (by omega)) rfl T.g__law_corners T.t__law_corners.kp T.b__law_corners pass0 (fa_cons (FE.brw (fe_var 5)) fa_nil))) fa_nil))))) (fw_or1 (ft_not (ft_val (fe_call (ok__law_same T) (hr.mono (by omega)) rfl T.g__law_same T.t__law_same.kp T.b__law_same pass0 (fa_cons (FE.brw (fe_call (ok_from_corners T) (hr.mono (by omega)) rfl T.g_from_corners T.t_from_corners.kp T.b_from_corners pass0 (fa_cons (FE.brw (fe_ix (FE.l0 (fe_var 5)) (FE.brw (fe_neg fe_int)))) (fa_cons (FE.brw (fe_call (ok_corners T) (hr.mono (by omega)) rfl T.g_corners T.t_corners.kp T.b_corners pass0 (fa_cons (FE.brw (fe_var 5)) fa_nil))) fa_nil)))) (fa_cons (FE.brw (fe_var 5)) fa_nil))))))))) (fss_one (fs_ret fe_bl)) fss_nil)))) (fss_cons (fl1 := [0, 0, 0, 0, 0, 0, 0, 0, 0, 0, 0, 0, 0, 0]) (fs_for (ws := [5]) (fl1 := [0, 0, 0, 0, 0, 0, 0, 0, 0, 0, 0, 0, 0, 0]) PassesOwn.never rfl (fi_any (fe_slT (FE.l0 (fe_var 2)) (fo_some fe_int) fo_none)) (fun _ => (fg_name (fl' := [0, 0, 0, 0, 0, 0, 0, 0, 0, 0, 0, 0, 0, 0]) 5 sc_law.nd)) (fun _ => (fss_one (fs_par2 (fl' := [0, 0, 0, 0, 0, 0, 0, 0, 0, 0, 0, 0, 0, 0]) 3 4 (n1 := 0) (n2 := 0) rfl sc_law.nd (fe_call (ok_product T) (hr.mono (by omega)) rfl T.g_product T.t_product.kp T.b_product pass0 (fa_cons (FE.brw (fe_var 3)) (fa_cons (FE.brw (fe_var 5)) fa_nil))) (fe_call (ok_summed T) (hr.mono (by omega)) rfl T.g_summed T.t_summed.kp T.b_summed pass0 (fa_cons (FE.brw (fe_var 4)) (fa_cons (FE.brw (fe_var 5)) fa_nil))) (by rfl))))) (fss_cons (fl1 := [0, 0, 0, 0, 0, 0, 0, 0, 0, 0, 0, 0, 0, 0]) (fs_if (ft_not (ft_val (fe_call (ok__law_same T) (hr.mono (by omega)) rfl T.g__law_same T.t__law_same.kp T.b__law_same pass0 (fa_cons (FE.brw (fe_var 3)) (fa_cons (FE.brw (fe_var 4)) fa_nil))))) (fss_one (fs_ret fe_bl)) fss_nil) (fss_cons (fl1 := [0, 0, 0, 0, 0, 0, 0, 0, 0, 0, 0, 0, 0, 0]) (fs_set (fl' := [0, 0, 0, 0, 0, 0, 0, 0, 0, 0, 0, 0, 0, 0]) 6 (n := 0) sc_law.nd (fe_callTy call_tuple_of cd_tuple rfl T.z_tuple boot_tuple' (fa_cons (FE.l1 (fe_lc (own := [("k", 13)]) (ws := [13]) (fl1 := [0, 0, 0, 0, 0, 0, 0, 0, 0, 0, 0, 0, 0, 0]) (n := 0) rfl sc_law.nd (fi_range1 rfl T.z_range (fa_cons (FE.brw (fe_op op_addA od_add (FE.l0 fe_int) (FE.l0 (fe_call (ok__law_draw T) (hr.mono (by omega)) rfl T.g__law_draw T.t__law_draw.kp T.b__law_draw pass0 (fa_cons (FE.brw (fe_var 1)) (fa_cons (FE.brw fe_int) fa_nil)))))) fa_nil)) (blkOk_by (N := N_law) (sc := (defScope s_law)) (by decide +kernel)) (fun _ _ _ _ _ _ => (fg_name (fl' := [0, 0, 0, 0, 0, 0, 0, 0, 0, 0, 0, 0, 0, 0]) 13 sc_law.nd)) (fun _ _ _ _ _ _ => fts_nil) (fun _ _ _ _ _ _ => (fe_call (ok__law_number T) (hr.mono (by omega)) rfl T.g__law_number T.t__law_number.kp T.b__law_number pass0 (fa_cons (FE.brw (fe_var 1)) fa_nil))) (by decide) (by decide))) fa_nil))) (fss_cons (fl1 := [0, 0, 0, 0, 0, 0, 0, 0, 0, 0, 0, 0, 0, 0]) (fs_if (ft_not (ft_val (fe_call (ok__law_same T) (hr.mono (by omega)) rfl T.g__law_same T.t__law_same.kp T.b__law_same pass0 (fa_cons (FE.brw (fe_call (ok_full T) (hr.mono (by omega)) rfl T.g_full T.t_full.kp T.b_full pass0 (fa_cons (FE.brw (fe_var 6)) fa_nil))) (fa_cons (FE.brw (fe_call (ok_hull T) (hr.mono (by omega)) rfl T.g_hull T.t_hull.kp T.b_hull pass0 (fa_cons (FE.brw (fe_var 6)) fa_nil))) fa_nil))))) (fss_one (fs_ret fe_bl)) fss_nil) (fss_cons (fl1 := [0, 0, 0, 0, 0, 0, 0, 0, 0, 0, 0, 0, 0, 0]) (fs_set (fl' := [0, 0, 0, 0, 0, 0, 0, 0, 0, 0, 0, 0, 0, 0]) 7 (n := 0) sc_law.nd (fe_call (ok__law_draw T) (hr.mono (by omega)) rfl T.g__law_draw T.t__law_draw.kp T.b__law_draw pass0 (fa_cons (FE.brw (fe_var 1)) (fa_cons (FE.brw (fe_callB cr_lenA cd_len rfl T.z_len boot_len' (fa_cons (FE.brw (fe_var 3)) fa_nil))) fa_nil)))) (fss_cons (fl1 := [0, 0, 0, 0, 0, 0, 0, 0, 0, 0, 0, 0, 0, 0]) (fs_set (fl' := [0, 0, 0, 0, 0, 0, 0, 0, 0, 0, 0, 0, 0, 0]) 8 (n := 0) sc_law.nd (fe_call (ok_shares T) (hr.mono (by omega)) rfl T.g_shares T.t_shares.kp T.b_shares pass0 (fa_cons (FE.brw (fe_var 2)) (fa_cons (FE.brw (fe_var 7)) fa_nil)))) (fss_cons (fl1 := [0, 0, 0, 0, 0, 0, 0, 0, 0, 0, 0, 0, 0, 0]) (fs_par2 (fl' := [0, 0, 0, 0, 0, 0, 0, 0, 0, 0, 0, 0, 0, 0]) 9 10 (n1 := 0) (n2 := 0) rfl sc_law.nd (fe_call (ok_worth T) (hr.mono (by omega)) rfl T.g_worth T.t_worth.kp T.b_worth pass0 (fa_cons (FE.brw (fe_var 2)) (fa_cons (FE.brw (fe_var 8)) fa_nil))) (fe_call (ok_price T) (hr.mono (by omega)) rfl T.g_price T.t_price.kp T.b_price pass0 (fa_cons (FE.brw (fe_var 2)) (fa_cons (FE.brw (fe_var 7)) fa_nil))) (by rfl)) (fss_cons (fl1 := [0, 0, 0, 0, 0, 0, 0, 0, 0, 0, 0, 0, 0, 0]) (fs_if (ft_not (ft_val (fe_call (ok__law_same T) (hr.mono (by omega)) rfl T.g__law_same T.t__law_same.kp T.b__law_same pass0 (fa_cons (FE.brw (fe_var 9)) (fa_cons (FE.brw (fe_ix (FE.l0 (fe_var 3)) (FE.brw (fe_var 7)))) fa_nil))))) (fss_one (fs_ret fe_bl)) fss_nil) (fss_cons (fl1 := [0, 0, 0, 0, 0, 0, 0, 0, 0, 0, 0, 0, 0, 0]) (fs_for (ws := [11]) (fl1 := [0, 0, 0, 0, 0, 0, 0, 0, 0, 0, 0, 0, 0, 0]) PassesOwn.never rfl (fi_range1 rfl T.z_range (fa_cons (FE.brw fe_int) fa_nil)) (fun _ => (fg_name (fl' := [0, 0, 0, 0, 0, 0, 0, 0, 0, 0, 0, 0, 0, 0]) 11 sc_law.nd)) (fun _ => (fss_cons (fl1 := [0, 0, 0, 0, 0, 0, 0, 0, 0, 0, 0, 0, 0, 0]) (fs_set (fl' := [0, 0, 0, 0, 0, 0, 0, 0, 0, 0, 0, 0, 0, 0]) 12 (n := 0) sc_law.nd (fe_call (ok__law_number T) (hr.mono (by omega)) rfl T.g__law_number T.t__law_number.kp T.b__law_number pass0 (fa_cons (FE.brw (fe_var 1)) fa_nil))) (fss_one (fs_if (ft_val (fe_call (ok__law_below T) (hr.mono (by omega)) rfl T.g__law_below T.t__law_below.kp T.b__law_below pass0 (fa_cons (FE.brw (fe_call (ok_value T) (hr.mono (by omega)) rfl T.g_value T.t_value.kp T.b_value pass0 (fa_cons (FE.brw (fe_var 3)) (fa_cons (FE.brw (fe_var 12)) fa_nil)))) (fa_cons (FE.brw (fe_call (ok__law_plus T) (hr.mono (by omega)) rfl T.g__law_plus T.t__law_plus.kp T.b__law_plus pass0 (fa_cons (FE.brw (fe_var 9)) (fa_cons (FE.brw (fe_call (ok__law_times T) (hr.mono (by omega)) rfl T.g__law_times T.t__law_times.kp T.b__law_times pass0 (fa_cons (FE.brw (fe_var 12)) (fa_cons (FE.brw (fe_var 7)) fa_nil)))) fa_nil)))) fa_nil)))) (fss_one (fs_ret fe_bl)) fss_nil))))) (fss_cons (fl1 := [0, 0, 0, 0, 0, 0, 0, 0, 0, 0, 0, 0, 0, 0]) (fs_if (ft_cmp op_isA od_is (FE.brw (fe_var 10)) (FE.brw fe_non)) (fss_one (fs_ret (fe_cmp (op_eqD hr.units) od_eq (FE.brw (fe_callB cr_lenA cd_len rfl T.z_len boot_len' (fa_cons (FE.brw (fe_var 3)) fa_nil))) (FE.brw fe_int)))) fss_nil) (fss_one (fs_ret (fe_call (ok__law_same T) (hr.mono (by omega)) rfl T.g__law_same T.t__law_same.kp T.b__law_same pass0 (fa_cons (FE.brw (fe_call (ok_value T) (hr.mono (by omega)) rfl T.g_value T.t_value.kp T.b_value pass0 (fa_cons (FE.brw (fe_var 3)) (fa_cons (FE.brw (fe_call (ok__law_times T) (hr.mono (by omega)) rfl T.g__law_times T.t__law_times.kp T.b__law_times pass0 (fa_cons (FE.brw (fe_var 10)) (fa_cons (FE.brw (fe_neg fe_int)) fa_nil)))) fa_nil)))) (fa_cons (FE.brw (fe_call (ok__law_minus T) (hr.mono (by omega)) rfl T.g__law_minus T.t__law_minus.kp T.b__law_minus pass0 (fa_cons (FE.brw (fe_var 9)) (fa_cons (FE.brw (fe_call (ok__law_times T) (hr.mono (by omega)) rfl T.g__law_times T.t__law_times.kp T.b__law_times pass0 (fa_cons (FE.brw (fe_var 10)) (fa_cons (FE.brw (fe_var 7)) fa_nil)))) fa_nil)))) fa_nil))))))))))))))))))⟩) rfl plain
end
end FL.K75a
set_option maxRecDepth 100000
set_option maxHeartbeats 2000000
noncomputable section
namespace FL.K75a
open PySem PySem.Spec PyProof.Rows L2 FL FL.L
def accF (p : Rat × List Rat) (l : List (Rat × List Rat)) : Rat × List Rat := l.foldl (fun acc q => (acc.1 + q.1, mrg acc.2 q.2)) p
theorem accF_snoc (p : Rat × List Rat) (l : List (Rat × List Rat)) (q : Rat × List Rat) : accF p (l ++ [q]) = ((accF p l).1 + q.1, mrg (accF p l).2 q.2) := by
  unfold accF; rw [List.foldl_append]; rfl
theorem accF_ok {R : List (Rat × List Rat)} {p0 : Rat × List Rat} (h0 : RB 6 p0.1 p0.2 ∧ Desc p0.2 ∧ p0.2.length ≤ 4) (hR : ∀ p ∈ R, RB 6 p.1 p.2 ∧ Desc p.2 ∧ p.2.length ≤ 4) : ∀ i, i ≤ R.length → i ≤ 2 → RB (6 * (i + 1)) (accF p0 (R.take i)).1 (accF p0 (R.take i)).2 ∧ Desc (accF p0 (R.take i)).2 ∧ (accF p0 (R.take i)).2.length ≤ 4 * (i + 1)
  | 0, _, _ => h0
  | i + 1, hi, h2 => by
    obtain ⟨b1, b2, b3⟩ := accF_ok h0 hR i (by omega) (by omega)
    obtain ⟨q, hq⟩ : ∃ q, R[i]? = some q := ⟨_, List.getElem?_eq_getElem (by omega)⟩
    obtain ⟨c1, c2, c3⟩ := hR q (List.mem_of_getElem? hq)
    rw [take_succ hq, accF_snoc]
    have e : 6 * (i + 1 + 1) = 6 * (i + 1) + 6 := by omega
    rw [e]
    exact ⟨b1.mrg c1 (by omega) (by omega), mrg_desc b2 c2, by rw [mrg_len]; omega⟩
theorem rests_zero : ∀ R : List (Rat × List Rat), rests R (List.replicate R.length 0) = R.flatMap fun p => p.2
  | [] => rfl
  | p :: R => by
    show p.2.drop 0 ++ rests R (List.replicate R.length 0) = p.2 ++ R.flatMap fun p => p.2
    rw [rests_zero R]; rfl
theorem accF_perm (p0 : Rat × List Rat) : ∀ R : List (Rat × List Rat), (accF p0 R).2.Perm (p0.2 ++ R.flatMap fun p => p.2) := fun R => by
  induction R generalizing p0 with
  | nil => show p0.2.Perm (p0.2 ++ []); rw [List.append_nil]
  | cons q R ih =>
    have := ih (p0.1 + q.1, mrg p0.2 q.2)
    show (accF (p0.1 + q.1, mrg p0.2 q.2) R).2.Perm (p0.2 ++ (q.2 ++ R.flatMap fun p => p.2))
    rw [← List.append_assoc]
    exact this.trans ((mrg_perm p0.2 q.2).append_right _)
theorem accF_sum (p0 : Rat × List Rat) : ∀ R : List (Rat × List Rat), (accF p0 R).1 = p0.1 + wsum R (List.replicate R.length 0) := fun R => by
  induction R generalizing p0 with
  | nil => show p0.1 = p0.1 + 0; grind
  | cons q R ih =>
    have := ih (p0.1 + q.1, mrg p0.2 q.2)
    show (accF (p0.1 + q.1, mrg p0.2 q.2) R).1 = p0.1 + ((q.1 + psum q.2 0) + wsum R (List.replicate R.length 0))
    rw [this, psum_zero]; grind
theorem sum_rep0 : ∀ n : Nat, (List.replicate n 0).sum = 0
  | 0 => rfl
  | n + 1 => by rw [List.replicate_succ, List.sum_cons, sum_rep0 n]
theorem sh_start (p0 : Rat × List Rat) (R : List (Rat × List Rat)) : Sh (p0 :: R) (accF p0 R).2 (accF p0 R).1 0 (List.replicate (p0 :: R).length 0) := by
  refine ⟨by simp, ?_, ?_, fun i p k _ h => ?_, sum_rep0 _⟩
  · rw [rests_zero, List.drop_zero]
    exact (accF_perm p0 R).symm
  · rw [psum_zero, accF_sum]
    show (p0.1 + psum p0.2 0) + wsum R (List.replicate R.length 0) = _
    rw [psum_zero]; grind
  · rw [List.getElem?_replicate] at h
    split at h
    · cases h; omega
    · cases h
theorem plain (ns : List Int) (hns : ns.length ≤ 63) : ∃ t', m_law (lawE 14 1) (tapeOf ns) = some (.rt (.bl true) t') := by
  suffices h : wp (m_law (lawE 14 1) (tapeOf ns)) fun o => ∃ t', o = .rt (.bl true) t' by
    obtain ⟨o, e, t', rfl⟩ := h
    exact ⟨t', e⟩
  show wp (m_law [none, some .tape, none, none, none, none, none, none, none, none, none, none, none, none] (tapeOf ns)) _
  simp_all! [m_law]
  refine wp_draw (tapeOf_ok ns) (by decide) (by decide) fun i t1 hi0 hi1 ht1 => ?_
  obtain ⟨n, rfl⟩ : ∃ m : Nat, i = m := ⟨i.toNat, by omega⟩
  have g1 : (1 : Int) + (n : Int) = ((n + 1 : Nat) : Int) := by omega
  have hr := range1 (n := n + 1) (by omega)
  simp_all! [g1, hr]
  refine wp_lcDs rP (fun p => RB 6 p.1 p.2 ∧ Desc p.2 ∧ p.2.length ≤ 4) _ _ ht1 (fun a ha t ht => ?_) fun R t2 ht2 hlen hR => ?_
  · simp_all! []
    refine wp_row ht fun a rs t' h1 h2 h3 h4 => ?_
    simp_all! [pln_row 6]
    exact ⟨(a, rs), rfl, h4, h1, h2, h3⟩
  have hl3 : R.length ≤ 3 := by simp at hlen; omega
  have hne : R ≠ [] := by intro z; rw [z] at hlen; simp at hlen
  obtain ⟨A, hA⟩ : ∃ A, A = D.tup (R.map rP) := ⟨_, rfl⟩
  obtain ⟨p0, R', hRR⟩ : ∃ p0 R', R = p0 :: R' := by
    cases R with
    | nil => exact absurd rfl hne
    | cons p R => exact ⟨p, R, rfl⟩
  have x0 : oIx A (.int 0) = some (rP p0) := by rw [hA, hRR]; exact oIx_tup (by omega) rfl
  have gt : gTuple [.lst (R.map rP)] = some A := by rw [hA]; rfl
  have itm : dItems A = some (R.map rP) := by rw [hA]; rfl
  have sR : sml R.length = true := sml_of (by omega)
  simp_all! [sR, gt, x0, itm]
  refine wp_forM R rP (fun i ρ t => t = t2 ∧ ∃ x5, ρ = [none, some .tape, some A, some (rP p0), some (rP p0), x5, none, none, none, none, none, none, none, none]) ⟨rfl, _, rfl⟩ (fun i p ρ t hp ⟨ht, x5, hρ⟩ => ?_) (fun ρ t ⟨ht, x5, hρ⟩ => ?_)
  · subst ht hρ
    obtain ⟨b1, b2, b3⟩ := hR p (List.mem_of_getElem? hp)
    have f1 := is_full_row b1 b2 t
    have f2 := corners_ev b1 b2 t
    have f3 := law_corners_ev b1 t
    have f4 := from_corners_ev b1 b2 (by decide) (by omega) t
    have lst : oIx (rP p) (.int (-1)) = some (rD (p.1 + psum p.2 p.2.length)) := by
      show atI ((List.range (p.2.length + 1)).map fun j => vD (rf p.1 p.2 j)) (-1) = _
      rw [List.range_succ, List.map_append]
      exact atI_last _ _
    have s1 : F_law_same [D.tup ((grp (negs p.2)).map pD), D.tup ((grp (negs p.2)).map pD)] t = some (.bl true, t) := by
      refine law_same_ev (okS_tup (n := 6) ?_ fun q _ => ?_) t
      · have := grp_len (negs p.2)
        have nl : (negs p.2).length = p.2.length := by unfold negs; simp
        omega
      · show (small [rD q.1, .int q.2] && List.all [rD q.1, D.int q.2] (okS 5)) = true
        rw [small_of (by show 2 ≤ 100000; decide), Bool.true_and, List.all_cons, okS_rD 3 q.1]; rfl
    have s2 : F_law_same [rP p, rP p] t = some (.bl true, t) := law_same_ev (okS_row 4 _ _ (show p.2.length + 1 ≤ 100000 by omega)) t
    have pc : ((grp (negs p.2)).map pD).all (pln 8) = true := pln_tup (n := 8) fun q _ => rfl
    have nb : oIsNot (.bl true) (.bl true) = some (.bl false) := rfl
    simp_all! [f1, f2, f3, lst, f4, s1, s2, pc, nb, pln_row 6]
    exact ⟨_, rfl⟩
  · subst ht hρ
    have tl : oSlT A (some 1) none = some (D.tup (R'.map rP)) := by
      rw [hA, hRR]
      show some (D.tup (cutL _ _ _)) = _
      rw [cut1]; rfl
    have itm2 : dItems (D.tup (R'.map rP)) = some (R'.map rP) := rfl
    have hR0 := hR p0 (by rw [hRR]; exact List.mem_cons_self)
    have hR1 : ∀ p ∈ R', RB 6 p.1 p.2 ∧ Desc p.2 ∧ p.2.length ≤ 4 := fun p hp => hR p (by rw [hRR]; exact List.mem_cons_of_mem _ hp)
    have hl2 : R'.length ≤ 2 := by rw [hRR] at hl3; simp at hl3; omega
    have acc := accF_ok hR0 hR1
    simp_all! [tl, itm2]
    refine wp_forM R' rP (fun i ρ t2 => t2 = t ∧ ∃ x5, ρ = [none, some .tape, some A, some (rP (accF p0 (R'.take i))), some (rP (accF p0 (R'.take i))), x5, none, none, none, none, none, none, none, none]) ⟨rfl, _, rfl⟩ (fun i p ρ t2 hp ⟨ht, x5, hρ⟩ => ?_) (fun ρ t2 ⟨ht, x5, hρ⟩ => ?_)
    · subst ht hρ
      have hil : i < R'.length := (List.getElem?_eq_some_iff.mp hp).1
      obtain ⟨b1, b2, b3⟩ := acc i (by omega) (by omega)
      obtain ⟨c1, c2, c3⟩ := hR1 p (List.mem_of_getElem? hp)
      have e1 := product_row b1 c1 b2 c2 (by omega) t2
      have e2 := summed_ev b1 c1 b2 c2 (by omega) (by omega) t2
      have e3 : accF p0 (R'.take (i + 1)) = ((accF p0 (R'.take i)).1 + p.1, mrg (accF p0 (R'.take i)).2 p.2) := by rw [take_succ hp, accF_snoc]
      rw [show rP (accF p0 (R'.take (i + 1))) = rwD ((accF p0 (R'.take i)).1 + p.1) (mrg (accF p0 (R'.take i)).2 p.2) by rw [e3]]
      clear e3 acc
      simp_all! [e1, e2, pln_row 6]
      exact ⟨_, rfl⟩
    · subst ht hρ
      rw [List.take_length]
      obtain ⟨b1, b2, b3⟩ := acc R'.length (Nat.le_refl _) hl2
      rw [List.take_length] at b1 b2 b3
      obtain ⟨W, hW⟩ : ∃ W, W = accF p0 R' := ⟨_, rfl⟩
      rw [← hW] at b1 b2 b3 ⊢
      have sW : F_law_same [rP W, rP W] t2 = some (.bl true, t2) := law_same_ev (okS_row 4 _ _ (show W.2.length + 1 ≤ 100000 by omega)) t2
      clear acc
      simp_all! [sW]
      refine wp_draw ht2 (by decide) (by decide) fun i t3 hi0 hi1 ht3 => ?_
      obtain ⟨m, rfl⟩ : ∃ m : Nat, i = m := ⟨i.toNat, by omega⟩
      have g2 : (1 : Int) + (m : Int) = ((m + 1 : Nat) : Int) := by omega
      have hr2 := range1 (n := m + 1) (by omega)
      simp_all! [g2, hr2]
      refine wp_lcDs rD (fun q => Bd 6 6 q) _ _ ht3 (fun a ha t ht => ?_) fun fr t4 ht4 hfl hfr => ?_
      · simp_all! []
        refine wp_num ht fun q t' hq ht' => ?_
        simp_all! [pln_rD]
        exact ⟨q, rfl, ht', hq⟩
      have hfl2 : fr.length = m + 1 := by simpa using hfl
      have fD : D.tup (fr.map rD) = rowD (m + 1) (fun i => some (rgt fr i)) := by rw [rs_range, hfl2]; rfl
      have fB : ∀ i, Bd 6 6 (rgt fr i) := fun i => by
        by_cases c : i < fr.length
        · exact hfr _ (List.mem_of_getElem? (rgt_eq c))
        · unfold rgt; rw [List.getElem?_eq_none (by omega)]; exact Bd.zero
      obtain ⟨g, f1, f2⟩ := full_hull fB (by decide) (Nat.succ_pos m) (by omega) t4
      have sG : F_law_same [rowD (m + 1) g, rowD (m + 1) g] t4 = some (.bl true, t4) := law_same_ev (okS_row 4 _ _ (show m + 1 ≤ 100000 by omega)) t4
      have gt2 : gTuple [.lst (fr.map rD)] = some (rowD (m + 1) (fun i => some (rgt fr i))) := by rw [← fD]; rfl
      have sm2 : sml fr.length = true := sml_of (by omega)
      simp_all! [sm2, gt2, f1, f2, sG, pln_row 6, gLen_row]
      refine wp_draw ht4 (by omega) (by omega) fun i t5 hi0 hi1 ht5 => ?_
      obtain ⟨n, rfl⟩ : ∃ q : Nat, i = q := ⟨i.toNat, by omega⟩
      have hnW : n ≤ W.2.length := by omega
      have dW := b2
      have hperm : W.2.Perm (R.flatMap fun p => p.2) := by rw [hW, hRR]; exact accF_perm p0 R'
      have hst : Sh R W.2 W.1 0 (List.replicate R.length 0) := by rw [hW, hRR]; exact sh_start p0 R'
      have hlenW : W.2.length = (R.map fun p => p.2.length).sum := by rw [hperm.length_eq, List.length_flatMap]
      have hRb : ∀ p ∈ R, RB 6 p.1 p.2 := fun p hp => (hR p hp).1
      have hRd : ∀ p ∈ R, Desc p.2 := fun p hp => (hR p hp).2.1
      obtain ⟨F, s1, s2⟩ := shares_ev hne (by omega) hRb hRd dW hnW (by omega) hlenW hst t5
      obtain ⟨w1, w2⟩ := worth_ev (by omega) hRb s2.len s2.le t5
      obtain ⟨v, v1, v2⟩ := price_ev (by omega) hRb s2.len s2.le t5 s1
      have pv := price_val s2 hRd dW hnW hperm v2
      rw [← hA] at s1 w1 v1
      have pF : pln 9 (D.tup (F.map iN)) = true := pln_tup (n := 8) fun a _ => rfl
      have pF2 : (F.map iN).all (pln 8) = true := pF
      rw [s2.sum] at w1 w2
      have xW : oIx (rP W) (.int (n : Int)) = some (rD (W.1 + psum W.2 n)) := ix_row (m := W.2.length + 1) (rf W.1 W.2) (by omega)
      have sT : F_law_same [rD (W.1 + psum W.2 n), rD (W.1 + psum W.2 n)] t5 = some (.bl true, t5) := law_same_ev (okS_rD 5 _) t5
      simp_all! [s1, w1, v1, pF, pF2, pln_rD, pln_vD, xW, sT]
      have h4 : dRange1 [.int 4] = some ((List.range 4).map fun (i : Nat) => D.int i) := range1 (n := 4) (by decide)
      obtain ⟨FR, hFR⟩ : ∃ FR, FR = rowD (m + 1) (fun i => some (rgt fr i)) := ⟨_, rfl⟩
      obtain ⟨LT, hLT⟩ : ∃ LT, LT = D.tup (F.map iN) := ⟨_, rfl⟩
      obtain ⟨T0, hT0⟩ : ∃ T0, T0 = W.1 + psum W.2 n := ⟨_, rfl⟩
      have vr : ∀ q, rD q = vD (some q) := fun _ => rfl
      have rT : R0 T0 := by rw [hT0]; exact r0b w2 (by omega)
      have supW : ∀ (q : Rat) (t : Tape), Bd 6 6 q → ∃ v', F_polys_value [rP W, rD q] t = some (vD v', t) ∧ SupOf (fun x => ∃ k, k ≤ W.2.length ∧ x = some (W.1 + psum W.2 k + q * (k : Rat))) v' := fun q t hq => value_row b1 hq t
      rw [← hFR, ← hLT, ← hT0]
      clear s1 w1 v1 f1 f2 sG gt2 hst pF pF2 sT
      simp_all! [h4]
      refine wp_forR _ (fun i ρ t => TOk t ∧ ∃ x11 x12, ρ = [none, some .tape, some A, some (rP W), some (rP W), x5, some FR, some (.int n), some LT, some (rD T0), some (vD v), x11, x12, none]) ⟨ht5, _, _, rfl⟩ (fun i ρ t hi ⟨ht, x11, x12, hρ⟩ => ?_) (fun ρ t ⟨ht, x11, x12, hρ⟩ => ?_)
      · subst hρ
        simp_all! []
        refine wp_num ht fun q t' hq ht' => ?_
        obtain ⟨v', e1, e2⟩ := supW q t' hq
        have cn : (((n : Int) : Rat)) = (n : Rat) := rfl
        have lt := law_times_ev (r0b hq (by decide)) (n := (n : Int)) (by omega) t'
        have bq := Bd.mulN (d := 6) (by decide) hq n
        rw [cn] at lt
        have rq : R0 (q * (n : Rat)) := r0b bq (by omega)
        have lp := law_plus_ev (V0.some rT) (V0.some rq) t'
        rw [show vplus (some T0) (some (q * (n : Rat))) = some (T0 + q * (n : Rat)) from rfl, ← vr, ← vr, ← vr] at lp
        have v0 : V0 v' := e2.V0 fun x ⟨k, hk, hx⟩ => by
          rw [hx]
          exact V0.some (r0b (Bd.add (by decide) (b1.at k) (Bd.mulN (d := 6) (by decide) hq k)) (by omega))
        have hm : vle (some (T0 + q * (n : Rat))) v' := e2.1 _ ⟨n, hnW, by rw [hT0]⟩
        have r2 : R0 (T0 + q * (n : Rat)) := by rw [hT0]; exact r0b (Bd.add (by decide) (b1.at n) bq) (by omega)
        have lb := law_below_ev v0 (V0.some r2) t'
        rw [vless_false.mpr hm, ← vr] at lb
        simp_all! [pln_rD, pln_vD, e1, lt, lp, lb]
        exact ⟨ht', _, _, rfl⟩
      · subst hρ
        cases hv : v with
        | none =>
          rw [hv] at pv
          have hz : W.2.length = 0 := by
            by_cases c : n = 0
            · rw [if_pos c] at pv; simpa using pv.symm
            · rw [if_neg c] at pv
              have := List.getElem?_eq_none_iff.mp pv.symm
              omega
          have gl : gLen [rP W] = some (.int 1) := by rw [gLen_row, hz]; rfl
          have o1 : oIs .non .non = some (.bl true) := rfl
          have q1 : oEq (.int 1) (.int 1) = some (.bl true) := rfl
          have vn : vD none = .non := rfl
          simp_all! [hv, vn, o1, gl, q1]
          try exact ⟨_, rfl⟩
        | some x =>
          rw [hv] at pv
          have xm : x ∈ W.2 := by
            by_cases c : n = 0
            · rw [if_pos c] at pv; exact List.mem_of_getElem? pv.symm
            · rw [if_neg c] at pv; exact List.mem_of_getElem? pv.symm
          have hx := b1.r x xm
          have sp := supp dW hnW (x := x) (fun i y hi hy => by
            by_cases c : n = 0
            · rw [if_pos c] at pv; exact desc_get dW (Nat.zero_le i) pv.symm hy
            · rw [if_neg c] at pv; exact desc_get dW (by omega) pv.symm hy) (fun i y hi hy => by
            rw [if_neg (by omega)] at pv; exact desc_get dW (by omega) hy pv.symm)
          have em : x * (((-1 : Int)) : Rat) = -x := by
            have : (((-1 : Int)) : Rat) = -1 := rfl
            rw [this]; grind
          have lt1 := law_times_ev (r0b hx (by decide)) (n := (-1 : Int)) (by decide) t
          rw [em] at lt1
          have lt2 := law_times_ev (r0b hx (by decide)) (n := (n : Int)) (by omega) t
          rw [show (((n : Int) : Rat)) = (n : Rat) from rfl] at lt2
          have bq := Bd.mulN (d := 6) (by decide) hx n
          have lm := law_minus_ev rT (r0b bq (by omega)) t
          obtain ⟨v', e1, e2⟩ := supW (-x) t (Bd.neg hx)
          have ev : v' = some (T0 - x * (n : Rat)) := e2.uniq ⟨fun y ⟨k, hk, hy⟩ => by
            rw [hy]
            have := sp k hk
            show W.1 + psum W.2 k + -x * (k : Rat) ≤ T0 - x * (n : Rat)
            rw [hT0]; grind, .inr ⟨n, hnW, by rw [hT0]; congr 1; grind⟩⟩
          rw [ev] at e1
          have o1 : oIs (vD (some x)) .non = some (.bl false) := rfl
          have vx : vD (some x) = rD x := rfl
          have sT := law_same_ev (okS_rD 5 (T0 - x * (n : Rat))) t
          have vy : vD (some (T0 - x * (n : Rat))) = rD (T0 - x * (n : Rat)) := rfl
          have o2 : oIs (rD x) .non = some (.bl false) := rfl
          rw [vy] at e1
          simp_all! [hv, vx, o2, lt1, e1, lt2, lm, sT, pln_rD]
          try exact ⟨_, rfl⟩
end FL.K75a
namespace FL.K75a
open PySem PySem.Spec PyProof.Rows L2 FL FL.L
theorem all_mk {l : PySem.W.OpenLaw} {w : World} {K : PySem.W.Frag} {h : Heap} {mg : Str → Option Value} {fa f_is_integer f_divisor f_is_ratio f_make f_add f_subtract f_multiply f_less f_is_value f_is_less f_greater f_greatest f_plus f_times f_mean f_steps f_is_row f_check_row f_summed f_shares f_worth f_price f_is_bend f_hull f_is_poly f_check_poly f_product f_value f_between f_full f_is_full f_sorted_pairs f_corners f_from_corners f__law_tape f__law_draw f__law_pick f__law_same f__law_frac f__law_plus f__law_minus f__law_times f__law_below f__law_number f__law_row f__law_corners f_law : Addr} (X : K.In h) (G : h.Ns mainGlobals mg) (hfa : mg "law" = some (.ref fa))
    {od_is_integer an_is_integer od_divisor an_divisor od_is_ratio an_is_ratio od_make an_make od_add an_add od_subtract an_subtract od_multiply an_multiply od_less an_less od_is_value an_is_value od_is_less an_is_less od_greater an_greater od_greatest an_greatest od_plus an_plus od_times an_times od_mean an_mean od_steps an_steps od_is_row an_is_row od_check_row an_check_row od_summed an_summed od_shares an_shares od_worth an_worth od_price an_price od_is_bend an_is_bend od_hull an_hull od_is_poly an_is_poly od_check_poly an_check_poly od_product an_product od_value an_value od_between an_between od_full an_full od_is_full an_is_full od_sorted_pairs an_sorted_pairs od_corners an_corners od_from_corners an_from_corners od__law_tape an__law_tape od__law_draw an__law_draw od__law_pick an__law_pick od__law_same an__law_same od__law_frac an__law_frac od__law_plus an__law_plus od__law_minus an__law_minus od__law_times an__law_times od__law_below an__law_below od__law_number an__law_number od__law_row an__law_row od__law_corners an__law_corners od_law an_law : Option Addr} {sl_is_integer sl_divisor sl_is_ratio sl_make sl_add sl_subtract sl_multiply sl_less sl_is_value sl_is_less sl_greater sl_greatest sl_plus sl_times sl_mean sl_steps sl_is_row sl_check_row sl_summed sl_shares sl_worth sl_price sl_is_bend sl_hull sl_is_poly sl_check_poly sl_product sl_value sl_between sl_full sl_is_full sl_sorted_pairs sl_corners sl_from_corners sl__law_tape sl__law_draw sl__law_pick sl__law_same sl__law_frac sl__law_plus sl__law_minus sl__law_times sl__law_below sl__law_number sl__law_row sl__law_corners sl_law : Array (Option Value)} {oc_is_integer kV_is_integer dc_is_integer pm_is_integer cd_is_integer ct_is_integer oc_divisor kV_divisor dc_divisor pm_divisor cd_divisor ct_divisor oc_is_ratio kV_is_ratio dc_is_ratio pm_is_ratio cd_is_ratio ct_is_ratio oc_make kV_make dc_make pm_make cd_make ct_make oc_add kV_add dc_add pm_add cd_add ct_add oc_subtract kV_subtract dc_subtract pm_subtract cd_subtract ct_subtract oc_multiply kV_multiply dc_multiply pm_multiply cd_multiply ct_multiply oc_less kV_less dc_less pm_less cd_less ct_less oc_is_value kV_is_value dc_is_value pm_is_value cd_is_value ct_is_value oc_is_less kV_is_less dc_is_less pm_is_less cd_is_less ct_is_less oc_greater kV_greater dc_greater pm_greater cd_greater ct_greater oc_greatest kV_greatest dc_greatest pm_greatest cd_greatest ct_greatest oc_plus kV_plus dc_plus pm_plus cd_plus ct_plus oc_times kV_times dc_times pm_times cd_times ct_times oc_mean kV_mean dc_mean pm_mean cd_mean ct_mean oc_steps kV_steps dc_steps pm_steps cd_steps ct_steps oc_is_row kV_is_row dc_is_row pm_is_row cd_is_row ct_is_row oc_check_row kV_check_row dc_check_row pm_check_row cd_check_row ct_check_row oc_summed kV_summed dc_summed pm_summed cd_summed ct_summed oc_shares kV_shares dc_shares pm_shares cd_shares ct_shares oc_worth kV_worth dc_worth pm_worth cd_worth ct_worth oc_price kV_price dc_price pm_price cd_price ct_price oc_is_bend kV_is_bend dc_is_bend pm_is_bend cd_is_bend ct_is_bend oc_hull kV_hull dc_hull pm_hull cd_hull ct_hull oc_is_poly kV_is_poly dc_is_poly pm_is_poly cd_is_poly ct_is_poly oc_check_poly kV_check_poly dc_check_poly pm_check_poly cd_check_poly ct_check_poly oc_product kV_product dc_product pm_product cd_product ct_product oc_value kV_value dc_value pm_value cd_value ct_value oc_between kV_between dc_between pm_between cd_between ct_between oc_full kV_full dc_full pm_full cd_full ct_full oc_is_full kV_is_full dc_is_full pm_is_full cd_is_full ct_is_full oc_sorted_pairs kV_sorted_pairs dc_sorted_pairs pm_sorted_pairs cd_sorted_pairs ct_sorted_pairs oc_corners kV_corners dc_corners pm_corners cd_corners ct_corners oc_from_corners kV_from_corners dc_from_corners pm_from_corners cd_from_corners ct_from_corners oc__law_tape kV__law_tape dc__law_tape pm__law_tape cd__law_tape ct__law_tape oc__law_draw kV__law_draw dc__law_draw pm__law_draw cd__law_draw ct__law_draw oc__law_pick kV__law_pick dc__law_pick pm__law_pick cd__law_pick ct__law_pick oc__law_same kV__law_same dc__law_same pm__law_same cd__law_same ct__law_same oc__law_frac kV__law_frac dc__law_frac pm__law_frac cd__law_frac ct__law_frac oc__law_plus kV__law_plus dc__law_plus pm__law_plus cd__law_plus ct__law_plus oc__law_minus kV__law_minus dc__law_minus pm__law_minus cd__law_minus ct__law_minus oc__law_times kV__law_times dc__law_times pm__law_times cd__law_times ct__law_times oc__law_below kV__law_below dc__law_below pm__law_below cd__law_below ct__law_below oc__law_number kV__law_number dc__law_number pm__law_number cd__law_number ct__law_number oc__law_row kV__law_row dc__law_row pm__law_row cd__law_row ct__law_row oc__law_corners kV__law_corners dc__law_corners pm__law_corners cd__law_corners ct__law_corners oc_law kV_law dc_law pm_law cd_law ct_law : Value}
    (a_is_integer : PySem.W.nsIn K mainGlobals "is_integer" = some (some (.ref f_is_integer))) (l_is_integer : K.lookup f_is_integer = some ⟨oc_is_integer, od_is_integer, .func (PySem.W.fnOf "is_integer" "is_integer" (defArgs s_is_integer) (defBody s_is_integer) (defScope s_is_integer) .none kV_is_integer dc_is_integer pm_is_integer an_is_integer cd_is_integer ct_is_integer), sl_is_integer⟩) (c_is_integer : PySem.W.codeIn K cd_is_integer "is_integer" = true) (k_is_integer : PySem.W.keepIn K (.ref f_is_integer) = true)
    (a_divisor : PySem.W.nsIn K mainGlobals "divisor" = some (some (.ref f_divisor))) (l_divisor : K.lookup f_divisor = some ⟨oc_divisor, od_divisor, .func (PySem.W.fnOf "divisor" "divisor" (defArgs s_divisor) (defBody s_divisor) (defScope s_divisor) .none kV_divisor dc_divisor pm_divisor an_divisor cd_divisor ct_divisor), sl_divisor⟩) (c_divisor : PySem.W.codeIn K cd_divisor "divisor" = true) (k_divisor : PySem.W.keepIn K (.ref f_divisor) = true)
    (a_is_ratio : PySem.W.nsIn K mainGlobals "is_ratio" = some (some (.ref f_is_ratio))) (l_is_ratio : K.lookup f_is_ratio = some ⟨oc_is_ratio, od_is_ratio, .func (PySem.W.fnOf "is_ratio" "is_ratio" (defArgs s_is_ratio) (defBody s_is_ratio) (defScope s_is_ratio) .none kV_is_ratio dc_is_ratio pm_is_ratio an_is_ratio cd_is_ratio ct_is_ratio), sl_is_ratio⟩) (c_is_ratio : PySem.W.codeIn K cd_is_ratio "is_ratio" = true) (k_is_ratio : PySem.W.keepIn K (.ref f_is_ratio) = true)
    (a_make : PySem.W.nsIn K mainGlobals "make" = some (some (.ref f_make))) (l_make : K.lookup f_make = some ⟨oc_make, od_make, .func (PySem.W.fnOf "make" "make" (defArgs s_make) (defBody s_make) (defScope s_make) .none kV_make dc_make pm_make an_make cd_make ct_make), sl_make⟩) (c_make : PySem.W.codeIn K cd_make "make" = true) (k_make : PySem.W.keepIn K (.ref f_make) = true)
    (a_add : PySem.W.nsIn K mainGlobals "add" = some (some (.ref f_add))) (l_add : K.lookup f_add = some ⟨oc_add, od_add, .func (PySem.W.fnOf "add" "add" (defArgs s_add) (defBody s_add) (defScope s_add) .none kV_add dc_add pm_add an_add cd_add ct_add), sl_add⟩) (c_add : PySem.W.codeIn K cd_add "add" = true) (k_add : PySem.W.keepIn K (.ref f_add) = true)
    (a_subtract : PySem.W.nsIn K mainGlobals "subtract" = some (some (.ref f_subtract))) (l_subtract : K.lookup f_subtract = some ⟨oc_subtract, od_subtract, .func (PySem.W.fnOf "subtract" "subtract" (defArgs s_subtract) (defBody s_subtract) (defScope s_subtract) .none kV_subtract dc_subtract pm_subtract an_subtract cd_subtract ct_subtract), sl_subtract⟩) (c_subtract : PySem.W.codeIn K cd_subtract "subtract" = true) (k_subtract : PySem.W.keepIn K (.ref f_subtract) = true)
    (a_multiply : PySem.W.nsIn K mainGlobals "multiply" = some (some (.ref f_multiply))) (l_multiply : K.lookup f_multiply = some ⟨oc_multiply, od_multiply, .func (PySem.W.fnOf "multiply" "multiply" (defArgs s_multiply) (defBody s_multiply) (defScope s_multiply) .none kV_multiply dc_multiply pm_multiply an_multiply cd_multiply ct_multiply), sl_multiply⟩) (c_multiply : PySem.W.codeIn K cd_multiply "multiply" = true) (k_multiply : PySem.W.keepIn K (.ref f_multiply) = true)
    (a_less : PySem.W.nsIn K mainGlobals "less" = some (some (.ref f_less))) (l_less : K.lookup f_less = some ⟨oc_less, od_less, .func (PySem.W.fnOf "less" "less" (defArgs s_less) (defBody s_less) (defScope s_less) .none kV_less dc_less pm_less an_less cd_less ct_less), sl_less⟩) (c_less : PySem.W.codeIn K cd_less "less" = true) (k_less : PySem.W.keepIn K (.ref f_less) = true)
    (a_is_value : PySem.W.nsIn K mainGlobals "is_value" = some (some (.ref f_is_value))) (l_is_value : K.lookup f_is_value = some ⟨oc_is_value, od_is_value, .func (PySem.W.fnOf "is_value" "is_value" (defArgs s_is_value) (defBody s_is_value) (defScope s_is_value) .none kV_is_value dc_is_value pm_is_value an_is_value cd_is_value ct_is_value), sl_is_value⟩) (c_is_value : PySem.W.codeIn K cd_is_value "is_value" = true) (k_is_value : PySem.W.keepIn K (.ref f_is_value) = true)
    (a_is_less : PySem.W.nsIn K mainGlobals "is_less" = some (some (.ref f_is_less))) (l_is_less : K.lookup f_is_less = some ⟨oc_is_less, od_is_less, .func (PySem.W.fnOf "is_less" "is_less" (defArgs s_is_less) (defBody s_is_less) (defScope s_is_less) .none kV_is_less dc_is_less pm_is_less an_is_less cd_is_less ct_is_less), sl_is_less⟩) (c_is_less : PySem.W.codeIn K cd_is_less "is_less" = true) (k_is_less : PySem.W.keepIn K (.ref f_is_less) = true)
    (a_greater : PySem.W.nsIn K mainGlobals "greater" = some (some (.ref f_greater))) (l_greater : K.lookup f_greater = some ⟨oc_greater, od_greater, .func (PySem.W.fnOf "greater" "greater" (defArgs s_greater) (defBody s_greater) (defScope s_greater) .none kV_greater dc_greater pm_greater an_greater cd_greater ct_greater), sl_greater⟩) (c_greater : PySem.W.codeIn K cd_greater "greater" = true) (k_greater : PySem.W.keepIn K (.ref f_greater) = true)
    (a_greatest : PySem.W.nsIn K mainGlobals "greatest" = some (some (.ref f_greatest))) (l_greatest : K.lookup f_greatest = some ⟨oc_greatest, od_greatest, .func (PySem.W.fnOf "greatest" "greatest" (defArgs s_greatest) (defBody s_greatest) (defScope s_greatest) .none kV_greatest dc_greatest pm_greatest an_greatest cd_greatest ct_greatest), sl_greatest⟩) (c_greatest : PySem.W.codeIn K cd_greatest "greatest" = true) (k_greatest : PySem.W.keepIn K (.ref f_greatest) = true)
    (a_plus : PySem.W.nsIn K mainGlobals "plus" = some (some (.ref f_plus))) (l_plus : K.lookup f_plus = some ⟨oc_plus, od_plus, .func (PySem.W.fnOf "plus" "plus" (defArgs s_plus) (defBody s_plus) (defScope s_plus) .none kV_plus dc_plus pm_plus an_plus cd_plus ct_plus), sl_plus⟩) (c_plus : PySem.W.codeIn K cd_plus "plus" = true) (k_plus : PySem.W.keepIn K (.ref f_plus) = true)
    (a_times : PySem.W.nsIn K mainGlobals "times" = some (some (.ref f_times))) (l_times : K.lookup f_times = some ⟨oc_times, od_times, .func (PySem.W.fnOf "times" "times" (defArgs s_times) (defBody s_times) (defScope s_times) .none kV_times dc_times pm_times an_times cd_times ct_times), sl_times⟩) (c_times : PySem.W.codeIn K cd_times "times" = true) (k_times : PySem.W.keepIn K (.ref f_times) = true)
    (a_mean : PySem.W.nsIn K mainGlobals "mean" = some (some (.ref f_mean))) (l_mean : K.lookup f_mean = some ⟨oc_mean, od_mean, .func (PySem.W.fnOf "mean" "mean" (defArgs s_mean) (defBody s_mean) (defScope s_mean) .none kV_mean dc_mean pm_mean an_mean cd_mean ct_mean), sl_mean⟩) (c_mean : PySem.W.codeIn K cd_mean "mean" = true) (k_mean : PySem.W.keepIn K (.ref f_mean) = true)
    (a_steps : PySem.W.nsIn K mainGlobals "steps" = some (some (.ref f_steps))) (l_steps : K.lookup f_steps = some ⟨oc_steps, od_steps, .func (PySem.W.fnOf "steps" "steps" (defArgs s_steps) (defBody s_steps) (defScope s_steps) .none kV_steps dc_steps pm_steps an_steps cd_steps ct_steps), sl_steps⟩) (c_steps : PySem.W.codeIn K cd_steps "steps" = true) (k_steps : PySem.W.keepIn K (.ref f_steps) = true)
    (a_is_row : PySem.W.nsIn K mainGlobals "is_row" = some (some (.ref f_is_row))) (l_is_row : K.lookup f_is_row = some ⟨oc_is_row, od_is_row, .func (PySem.W.fnOf "is_row" "is_row" (defArgs s_is_row) (defBody s_is_row) (defScope s_is_row) .none kV_is_row dc_is_row pm_is_row an_is_row cd_is_row ct_is_row), sl_is_row⟩) (c_is_row : PySem.W.codeIn K cd_is_row "is_row" = true) (k_is_row : PySem.W.keepIn K (.ref f_is_row) = true)
    (a_check_row : PySem.W.nsIn K mainGlobals "check_row" = some (some (.ref f_check_row))) (l_check_row : K.lookup f_check_row = some ⟨oc_check_row, od_check_row, .func (PySem.W.fnOf "check_row" "check_row" (defArgs s_check_row) (defBody s_check_row) (defScope s_check_row) .none kV_check_row dc_check_row pm_check_row an_check_row cd_check_row ct_check_row), sl_check_row⟩) (c_check_row : PySem.W.codeIn K cd_check_row "check_row" = true) (k_check_row : PySem.W.keepIn K (.ref f_check_row) = true)
    (a_summed : PySem.W.nsIn K mainGlobals "summed" = some (some (.ref f_summed))) (l_summed : K.lookup f_summed = some ⟨oc_summed, od_summed, .func (PySem.W.fnOf "summed" "summed" (defArgs s_summed) (defBody s_summed) (defScope s_summed) .none kV_summed dc_summed pm_summed an_summed cd_summed ct_summed), sl_summed⟩) (c_summed : PySem.W.codeIn K cd_summed "summed" = true) (k_summed : PySem.W.keepIn K (.ref f_summed) = true)
    (a_shares : PySem.W.nsIn K mainGlobals "shares" = some (some (.ref f_shares))) (l_shares : K.lookup f_shares = some ⟨oc_shares, od_shares, .func (PySem.W.fnOf "shares" "shares" (defArgs s_shares) (defBody s_shares) (defScope s_shares) .none kV_shares dc_shares pm_shares an_shares cd_shares ct_shares), sl_shares⟩) (c_shares : PySem.W.codeIn K cd_shares "shares" = true) (k_shares : PySem.W.keepIn K (.ref f_shares) = true)
    (a_worth : PySem.W.nsIn K mainGlobals "worth" = some (some (.ref f_worth))) (l_worth : K.lookup f_worth = some ⟨oc_worth, od_worth, .func (PySem.W.fnOf "worth" "worth" (defArgs s_worth) (defBody s_worth) (defScope s_worth) .none kV_worth dc_worth pm_worth an_worth cd_worth ct_worth), sl_worth⟩) (c_worth : PySem.W.codeIn K cd_worth "worth" = true) (k_worth : PySem.W.keepIn K (.ref f_worth) = true)
    (a_price : PySem.W.nsIn K mainGlobals "price" = some (some (.ref f_price))) (l_price : K.lookup f_price = some ⟨oc_price, od_price, .func (PySem.W.fnOf "price" "price" (defArgs s_price) (defBody s_price) (defScope s_price) .none kV_price dc_price pm_price an_price cd_price ct_price), sl_price⟩) (c_price : PySem.W.codeIn K cd_price "price" = true) (k_price : PySem.W.keepIn K (.ref f_price) = true)
    (a_is_bend : PySem.W.nsIn K mainGlobals "is_bend" = some (some (.ref f_is_bend))) (l_is_bend : K.lookup f_is_bend = some ⟨oc_is_bend, od_is_bend, .func (PySem.W.fnOf "is_bend" "is_bend" (defArgs s_is_bend) (defBody s_is_bend) (defScope s_is_bend) .none kV_is_bend dc_is_bend pm_is_bend an_is_bend cd_is_bend ct_is_bend), sl_is_bend⟩) (c_is_bend : PySem.W.codeIn K cd_is_bend "is_bend" = true) (k_is_bend : PySem.W.keepIn K (.ref f_is_bend) = true)
    (a_hull : PySem.W.nsIn K mainGlobals "hull" = some (some (.ref f_hull))) (l_hull : K.lookup f_hull = some ⟨oc_hull, od_hull, .func (PySem.W.fnOf "hull" "hull" (defArgs s_hull) (defBody s_hull) (defScope s_hull) .none kV_hull dc_hull pm_hull an_hull cd_hull ct_hull), sl_hull⟩) (c_hull : PySem.W.codeIn K cd_hull "hull" = true) (k_hull : PySem.W.keepIn K (.ref f_hull) = true)
    (a_is_poly : PySem.W.nsIn K mainGlobals "is_poly" = some (some (.ref f_is_poly))) (l_is_poly : K.lookup f_is_poly = some ⟨oc_is_poly, od_is_poly, .func (PySem.W.fnOf "is_poly" "is_poly" (defArgs s_is_poly) (defBody s_is_poly) (defScope s_is_poly) .none kV_is_poly dc_is_poly pm_is_poly an_is_poly cd_is_poly ct_is_poly), sl_is_poly⟩) (c_is_poly : PySem.W.codeIn K cd_is_poly "is_poly" = true) (k_is_poly : PySem.W.keepIn K (.ref f_is_poly) = true)
    (a_check_poly : PySem.W.nsIn K mainGlobals "check_poly" = some (some (.ref f_check_poly))) (l_check_poly : K.lookup f_check_poly = some ⟨oc_check_poly, od_check_poly, .func (PySem.W.fnOf "check_poly" "check_poly" (defArgs s_check_poly) (defBody s_check_poly) (defScope s_check_poly) .none kV_check_poly dc_check_poly pm_check_poly an_check_poly cd_check_poly ct_check_poly), sl_check_poly⟩) (c_check_poly : PySem.W.codeIn K cd_check_poly "check_poly" = true) (k_check_poly : PySem.W.keepIn K (.ref f_check_poly) = true)
    (a_product : PySem.W.nsIn K mainGlobals "product" = some (some (.ref f_product))) (l_product : K.lookup f_product = some ⟨oc_product, od_product, .func (PySem.W.fnOf "product" "product" (defArgs s_product) (defBody s_product) (defScope s_product) .none kV_product dc_product pm_product an_product cd_product ct_product), sl_product⟩) (c_product : PySem.W.codeIn K cd_product "product" = true) (k_product : PySem.W.keepIn K (.ref f_product) = true)
    (a_value : PySem.W.nsIn K mainGlobals "value" = some (some (.ref f_value))) (l_value : K.lookup f_value = some ⟨oc_value, od_value, .func (PySem.W.fnOf "value" "value" (defArgs s_value) (defBody s_value) (defScope s_value) .none kV_value dc_value pm_value an_value cd_value ct_value), sl_value⟩) (c_value : PySem.W.codeIn K cd_value "value" = true) (k_value : PySem.W.keepIn K (.ref f_value) = true)
    (a_between : PySem.W.nsIn K mainGlobals "between" = some (some (.ref f_between))) (l_between : K.lookup f_between = some ⟨oc_between, od_between, .func (PySem.W.fnOf "between" "between" (defArgs s_between) (defBody s_between) (defScope s_between) .none kV_between dc_between pm_between an_between cd_between ct_between), sl_between⟩) (c_between : PySem.W.codeIn K cd_between "between" = true) (k_between : PySem.W.keepIn K (.ref f_between) = true)
    (a_full : PySem.W.nsIn K mainGlobals "full" = some (some (.ref f_full))) (l_full : K.lookup f_full = some ⟨oc_full, od_full, .func (PySem.W.fnOf "full" "full" (defArgs s_full) (defBody s_full) (defScope s_full) .none kV_full dc_full pm_full an_full cd_full ct_full), sl_full⟩) (c_full : PySem.W.codeIn K cd_full "full" = true) (k_full : PySem.W.keepIn K (.ref f_full) = true)
    (a_is_full : PySem.W.nsIn K mainGlobals "is_full" = some (some (.ref f_is_full))) (l_is_full : K.lookup f_is_full = some ⟨oc_is_full, od_is_full, .func (PySem.W.fnOf "is_full" "is_full" (defArgs s_is_full) (defBody s_is_full) (defScope s_is_full) .none kV_is_full dc_is_full pm_is_full an_is_full cd_is_full ct_is_full), sl_is_full⟩) (c_is_full : PySem.W.codeIn K cd_is_full "is_full" = true) (k_is_full : PySem.W.keepIn K (.ref f_is_full) = true)
    (a_sorted_pairs : PySem.W.nsIn K mainGlobals "sorted_pairs" = some (some (.ref f_sorted_pairs))) (l_sorted_pairs : K.lookup f_sorted_pairs = some ⟨oc_sorted_pairs, od_sorted_pairs, .func (PySem.W.fnOf "sorted_pairs" "sorted_pairs" (defArgs s_sorted_pairs) (defBody s_sorted_pairs) (defScope s_sorted_pairs) .none kV_sorted_pairs dc_sorted_pairs pm_sorted_pairs an_sorted_pairs cd_sorted_pairs ct_sorted_pairs), sl_sorted_pairs⟩) (c_sorted_pairs : PySem.W.codeIn K cd_sorted_pairs "sorted_pairs" = true) (k_sorted_pairs : PySem.W.keepIn K (.ref f_sorted_pairs) = true)
    (a_corners : PySem.W.nsIn K mainGlobals "corners" = some (some (.ref f_corners))) (l_corners : K.lookup f_corners = some ⟨oc_corners, od_corners, .func (PySem.W.fnOf "corners" "corners" (defArgs s_corners) (defBody s_corners) (defScope s_corners) .none kV_corners dc_corners pm_corners an_corners cd_corners ct_corners), sl_corners⟩) (c_corners : PySem.W.codeIn K cd_corners "corners" = true) (k_corners : PySem.W.keepIn K (.ref f_corners) = true)
    (a_from_corners : PySem.W.nsIn K mainGlobals "from_corners" = some (some (.ref f_from_corners))) (l_from_corners : K.lookup f_from_corners = some ⟨oc_from_corners, od_from_corners, .func (PySem.W.fnOf "from_corners" "from_corners" (defArgs s_from_corners) (defBody s_from_corners) (defScope s_from_corners) .none kV_from_corners dc_from_corners pm_from_corners an_from_corners cd_from_corners ct_from_corners), sl_from_corners⟩) (c_from_corners : PySem.W.codeIn K cd_from_corners "from_corners" = true) (k_from_corners : PySem.W.keepIn K (.ref f_from_corners) = true)
    (a__law_tape : PySem.W.nsIn K mainGlobals "_law_tape" = some (some (.ref f__law_tape))) (l__law_tape : K.lookup f__law_tape = some ⟨oc__law_tape, od__law_tape, .func (PySem.W.fnOf "_law_tape" "_law_tape" (defArgs s__law_tape) (defBody s__law_tape) (defScope s__law_tape) .none kV__law_tape dc__law_tape pm__law_tape an__law_tape cd__law_tape ct__law_tape), sl__law_tape⟩) (c__law_tape : PySem.W.codeIn K cd__law_tape "_law_tape" = true) (k__law_tape : PySem.W.keepIn K (.ref f__law_tape) = true)
    (a__law_draw : PySem.W.nsIn K mainGlobals "_law_draw" = some (some (.ref f__law_draw))) (l__law_draw : K.lookup f__law_draw = some ⟨oc__law_draw, od__law_draw, .func (PySem.W.fnOf "_law_draw" "_law_draw" (defArgs s__law_draw) (defBody s__law_draw) (defScope s__law_draw) .none kV__law_draw dc__law_draw pm__law_draw an__law_draw cd__law_draw ct__law_draw), sl__law_draw⟩) (c__law_draw : PySem.W.codeIn K cd__law_draw "_law_draw" = true) (k__law_draw : PySem.W.keepIn K (.ref f__law_draw) = true)
    (a__law_pick : PySem.W.nsIn K mainGlobals "_law_pick" = some (some (.ref f__law_pick))) (l__law_pick : K.lookup f__law_pick = some ⟨oc__law_pick, od__law_pick, .func (PySem.W.fnOf "_law_pick" "_law_pick" (defArgs s__law_pick) (defBody s__law_pick) (defScope s__law_pick) .none kV__law_pick dc__law_pick pm__law_pick an__law_pick cd__law_pick ct__law_pick), sl__law_pick⟩) (c__law_pick : PySem.W.codeIn K cd__law_pick "_law_pick" = true) (k__law_pick : PySem.W.keepIn K (.ref f__law_pick) = true)
    (a__law_same : PySem.W.nsIn K mainGlobals "_law_same" = some (some (.ref f__law_same))) (l__law_same : K.lookup f__law_same = some ⟨oc__law_same, od__law_same, .func (PySem.W.fnOf "_law_same" "_law_same" (defArgs s__law_same) (defBody s__law_same) (defScope s__law_same) .none kV__law_same dc__law_same pm__law_same an__law_same cd__law_same ct__law_same), sl__law_same⟩) (c__law_same : PySem.W.codeIn K cd__law_same "_law_same" = true) (k__law_same : PySem.W.keepIn K (.ref f__law_same) = true)
    (a__law_frac : PySem.W.nsIn K mainGlobals "_law_frac" = some (some (.ref f__law_frac))) (l__law_frac : K.lookup f__law_frac = some ⟨oc__law_frac, od__law_frac, .func (PySem.W.fnOf "_law_frac" "_law_frac" (defArgs s__law_frac) (defBody s__law_frac) (defScope s__law_frac) .none kV__law_frac dc__law_frac pm__law_frac an__law_frac cd__law_frac ct__law_frac), sl__law_frac⟩) (c__law_frac : PySem.W.codeIn K cd__law_frac "_law_frac" = true) (k__law_frac : PySem.W.keepIn K (.ref f__law_frac) = true)
    (a__law_plus : PySem.W.nsIn K mainGlobals "_law_plus" = some (some (.ref f__law_plus))) (l__law_plus : K.lookup f__law_plus = some ⟨oc__law_plus, od__law_plus, .func (PySem.W.fnOf "_law_plus" "_law_plus" (defArgs s__law_plus) (defBody s__law_plus) (defScope s__law_plus) .none kV__law_plus dc__law_plus pm__law_plus an__law_plus cd__law_plus ct__law_plus), sl__law_plus⟩) (c__law_plus : PySem.W.codeIn K cd__law_plus "_law_plus" = true) (k__law_plus : PySem.W.keepIn K (.ref f__law_plus) = true)
    (a__law_minus : PySem.W.nsIn K mainGlobals "_law_minus" = some (some (.ref f__law_minus))) (l__law_minus : K.lookup f__law_minus = some ⟨oc__law_minus, od__law_minus, .func (PySem.W.fnOf "_law_minus" "_law_minus" (defArgs s__law_minus) (defBody s__law_minus) (defScope s__law_minus) .none kV__law_minus dc__law_minus pm__law_minus an__law_minus cd__law_minus ct__law_minus), sl__law_minus⟩) (c__law_minus : PySem.W.codeIn K cd__law_minus "_law_minus" = true) (k__law_minus : PySem.W.keepIn K (.ref f__law_minus) = true)
    (a__law_times : PySem.W.nsIn K mainGlobals "_law_times" = some (some (.ref f__law_times))) (l__law_times : K.lookup f__law_times = some ⟨oc__law_times, od__law_times, .func (PySem.W.fnOf "_law_times" "_law_times" (defArgs s__law_times) (defBody s__law_times) (defScope s__law_times) .none kV__law_times dc__law_times pm__law_times an__law_times cd__law_times ct__law_times), sl__law_times⟩) (c__law_times : PySem.W.codeIn K cd__law_times "_law_times" = true) (k__law_times : PySem.W.keepIn K (.ref f__law_times) = true)
    (a__law_below : PySem.W.nsIn K mainGlobals "_law_below" = some (some (.ref f__law_below))) (l__law_below : K.lookup f__law_below = some ⟨oc__law_below, od__law_below, .func (PySem.W.fnOf "_law_below" "_law_below" (defArgs s__law_below) (defBody s__law_below) (defScope s__law_below) .none kV__law_below dc__law_below pm__law_below an__law_below cd__law_below ct__law_below), sl__law_below⟩) (c__law_below : PySem.W.codeIn K cd__law_below "_law_below" = true) (k__law_below : PySem.W.keepIn K (.ref f__law_below) = true)
    (a__law_number : PySem.W.nsIn K mainGlobals "_law_number" = some (some (.ref f__law_number))) (l__law_number : K.lookup f__law_number = some ⟨oc__law_number, od__law_number, .func (PySem.W.fnOf "_law_number" "_law_number" (defArgs s__law_number) (defBody s__law_number) (defScope s__law_number) .none kV__law_number dc__law_number pm__law_number an__law_number cd__law_number ct__law_number), sl__law_number⟩) (c__law_number : PySem.W.codeIn K cd__law_number "_law_number" = true) (k__law_number : PySem.W.keepIn K (.ref f__law_number) = true)
    (a__law_row : PySem.W.nsIn K mainGlobals "_law_row" = some (some (.ref f__law_row))) (l__law_row : K.lookup f__law_row = some ⟨oc__law_row, od__law_row, .func (PySem.W.fnOf "_law_row" "_law_row" (defArgs s__law_row) (defBody s__law_row) (defScope s__law_row) .none kV__law_row dc__law_row pm__law_row an__law_row cd__law_row ct__law_row), sl__law_row⟩) (c__law_row : PySem.W.codeIn K cd__law_row "_law_row" = true) (k__law_row : PySem.W.keepIn K (.ref f__law_row) = true)
    (a__law_corners : PySem.W.nsIn K mainGlobals "_law_corners" = some (some (.ref f__law_corners))) (l__law_corners : K.lookup f__law_corners = some ⟨oc__law_corners, od__law_corners, .func (PySem.W.fnOf "_law_corners" "_law_corners" (defArgs s__law_corners) (defBody s__law_corners) (defScope s__law_corners) .none kV__law_corners dc__law_corners pm__law_corners an__law_corners cd__law_corners ct__law_corners), sl__law_corners⟩) (c__law_corners : PySem.W.codeIn K cd__law_corners "_law_corners" = true) (k__law_corners : PySem.W.keepIn K (.ref f__law_corners) = true)
    (a_law : PySem.W.nsIn K mainGlobals "law" = some (some (.ref f_law))) (l_law : K.lookup f_law = some ⟨oc_law, od_law, .func (PySem.W.fnOf "law" "law" (defArgs s_law) (defBody s_law) (defScope s_law) .none kV_law dc_law pm_law an_law cd_law ct_law), sl_law⟩) (c_law : PySem.W.codeIn K cd_law "law" = true) (k_law : PySem.W.keepIn K (.ref f_law) = true)
    (z_abs : PySem.W.nsIn K mainGlobals "abs" = some none)
    (z_all : PySem.W.nsIn K mainGlobals "all" = some none)
    (z_any : PySem.W.nsIn K mainGlobals "any" = some none)
    (z_bool : PySem.W.nsIn K mainGlobals "bool" = some none)
    (z_enumerate : PySem.W.nsIn K mainGlobals "enumerate" = some none)
    (z_int : PySem.W.nsIn K mainGlobals "int" = some none)
    (z_isinstance : PySem.W.nsIn K mainGlobals "isinstance" = some none)
    (z_len : PySem.W.nsIn K mainGlobals "len" = some none)
    (z_range : PySem.W.nsIn K mainGlobals "range" = some none)
    (z_str : PySem.W.nsIn K mainGlobals "str" = some none)
    (z_sum : PySem.W.nsIn K mainGlobals "sum" = some none)
    (z_tuple : PySem.W.nsIn K mainGlobals "tuple" = some none)
    (z_zip : PySem.W.nsIn K mainGlobals "zip" = some none)
    {tk_MOST_DEGREE : Tok} (q_MOST_DEGREE : PySem.W.nsIn K mainGlobals "MOST_DEGREE" = some (some (.int 30 tk_MOST_DEGREE)))
    {tk_MOST_ITEMS : Tok} (q_MOST_ITEMS : PySem.W.nsIn K mainGlobals "MOST_ITEMS" = some (some (.int 40 tk_MOST_ITEMS)))
    {tk_MOST_ROWS : Tok} (q_MOST_ROWS : PySem.W.nsIn K mainGlobals "MOST_ROWS" = some (some (.int 8 tk_MOST_ROWS)))
    {ad_ZERO : Addr} {od_ZERO : Option Addr} {n_ZERO : Nat} {sl_ZERO : Array (Option Value)} {tk_ZERO_0 tk_ZERO_1 : Tok} (q_ZERO : PySem.W.nsIn K mainGlobals "ZERO" = some (some (.ref ad_ZERO))) (r_ZERO : K.lookup ad_ZERO = some ⟨.type "tuple", od_ZERO, .seq #[.int 0 tk_ZERO_0, .int 1 tk_ZERO_1] n_ZERO, sl_ZERO⟩)
    : ∃ fd : FuncData, (∀ (s : Shared) (v : Value), BindsTo s fd ⟨[v], []⟩ [("script", v)]) ∧ ∀ base : Heap, K.In base → base.Ns mainGlobals mg → FnOk l.prog w K mg base CX0 9 fa fd ["script"] (spLaw K) := by
  have e := hfa.symm.trans (PySem.W.mg_of X G a_law)
  cases e
  have F_is_integer := fun_mk (st := s_is_integer) l_is_integer c_is_integer k_is_integer
  have F_divisor := fun_mk (st := s_divisor) l_divisor c_divisor k_divisor
  have F_is_ratio := fun_mk (st := s_is_ratio) l_is_ratio c_is_ratio k_is_ratio
  have F_make := fun_mk (st := s_make) l_make c_make k_make
  have F_add := fun_mk (st := s_add) l_add c_add k_add
  have F_subtract := fun_mk (st := s_subtract) l_subtract c_subtract k_subtract
  have F_multiply := fun_mk (st := s_multiply) l_multiply c_multiply k_multiply
  have F_less := fun_mk (st := s_less) l_less c_less k_less
  have F_is_value := fun_mk (st := s_is_value) l_is_value c_is_value k_is_value
  have F_is_less := fun_mk (st := s_is_less) l_is_less c_is_less k_is_less
  have F_greater := fun_mk (st := s_greater) l_greater c_greater k_greater
  have F_greatest := fun_mk (st := s_greatest) l_greatest c_greatest k_greatest
  have F_plus := fun_mk (st := s_plus) l_plus c_plus k_plus
  have F_times := fun_mk (st := s_times) l_times c_times k_times
  have F_mean := fun_mk (st := s_mean) l_mean c_mean k_mean
  have F_steps := fun_mk (st := s_steps) l_steps c_steps k_steps
  have F_is_row := fun_mk (st := s_is_row) l_is_row c_is_row k_is_row
  have F_check_row := fun_mk (st := s_check_row) l_check_row c_check_row k_check_row
  have F_summed := fun_mk (st := s_summed) l_summed c_summed k_summed
  have F_shares := fun_mk (st := s_shares) l_shares c_shares k_shares
  have F_worth := fun_mk (st := s_worth) l_worth c_worth k_worth
  have F_price := fun_mk (st := s_price) l_price c_price k_price
  have F_is_bend := fun_mk (st := s_is_bend) l_is_bend c_is_bend k_is_bend
  have F_hull := fun_mk (st := s_hull) l_hull c_hull k_hull
  have F_is_poly := fun_mk (st := s_is_poly) l_is_poly c_is_poly k_is_poly
  have F_check_poly := fun_mk (st := s_check_poly) l_check_poly c_check_poly k_check_poly
  have F_product := fun_mk (st := s_product) l_product c_product k_product
  have F_value := fun_mk (st := s_value) l_value c_value k_value
  have F_between := fun_mk (st := s_between) l_between c_between k_between
  have F_full := fun_mk (st := s_full) l_full c_full k_full
  have F_is_full := fun_mk (st := s_is_full) l_is_full c_is_full k_is_full
  have F_sorted_pairs := fun_mk (st := s_sorted_pairs) l_sorted_pairs c_sorted_pairs k_sorted_pairs
  have F_corners := fun_mk (st := s_corners) l_corners c_corners k_corners
  have F_from_corners := fun_mk (st := s_from_corners) l_from_corners c_from_corners k_from_corners
  have F__law_tape := fun_mk (st := s__law_tape) l__law_tape c__law_tape k__law_tape
  have F__law_draw := fun_mk (st := s__law_draw) l__law_draw c__law_draw k__law_draw
  have F__law_pick := fun_mk (st := s__law_pick) l__law_pick c__law_pick k__law_pick
  have F__law_same := fun_mk (st := s__law_same) l__law_same c__law_same k__law_same
  have F__law_frac := fun_mk (st := s__law_frac) l__law_frac c__law_frac k__law_frac
  have F__law_plus := fun_mk (st := s__law_plus) l__law_plus c__law_plus k__law_plus
  have F__law_minus := fun_mk (st := s__law_minus) l__law_minus c__law_minus k__law_minus
  have F__law_times := fun_mk (st := s__law_times) l__law_times c__law_times k__law_times
  have F__law_below := fun_mk (st := s__law_below) l__law_below c__law_below k__law_below
  have F__law_number := fun_mk (st := s__law_number) l__law_number c__law_number k__law_number
  have F__law_row := fun_mk (st := s__law_row) l__law_row c__law_row k__law_row
  have F__law_corners := fun_mk (st := s__law_corners) l__law_corners c__law_corners k__law_corners
  have F_law := fun_mk (st := s_law) l_law c_law k_law
  let T : Tx K mg := {
    f_is_integer := f_is_integer, d_is_integer := _, t_is_integer := F_is_integer, g_is_integer := PySem.W.mg_of X G a_is_integer, b_is_integer := F_is_integer.binds fun _ _ _ _ _ _ us hl => match us, hl with | [_], _ => rfl
    f_divisor := f_divisor, d_divisor := _, t_divisor := F_divisor, g_divisor := PySem.W.mg_of X G a_divisor, b_divisor := F_divisor.binds fun _ _ _ _ _ _ us hl => match us, hl with | [_, _], _ => rfl
    f_is_ratio := f_is_ratio, d_is_ratio := _, t_is_ratio := F_is_ratio, g_is_ratio := PySem.W.mg_of X G a_is_ratio, b_is_ratio := F_is_ratio.binds fun _ _ _ _ _ _ us hl => match us, hl with | [_], _ => rfl
    f_make := f_make, d_make := _, t_make := F_make, g_make := PySem.W.mg_of X G a_make, b_make := F_make.binds fun _ _ _ _ _ _ us hl => match us, hl with | [_, _], _ => rfl
    f_add := f_add, d_add := _, t_add := F_add, g_add := PySem.W.mg_of X G a_add, b_add := F_add.binds fun _ _ _ _ _ _ us hl => match us, hl with | [_, _], _ => rfl
    f_subtract := f_subtract, d_subtract := _, t_subtract := F_subtract, g_subtract := PySem.W.mg_of X G a_subtract, b_subtract := F_subtract.binds fun _ _ _ _ _ _ us hl => match us, hl with | [_, _], _ => rfl
    f_multiply := f_multiply, d_multiply := _, t_multiply := F_multiply, g_multiply := PySem.W.mg_of X G a_multiply, b_multiply := F_multiply.binds fun _ _ _ _ _ _ us hl => match us, hl with | [_, _], _ => rfl
    f_less := f_less, d_less := _, t_less := F_less, g_less := PySem.W.mg_of X G a_less, b_less := F_less.binds fun _ _ _ _ _ _ us hl => match us, hl with | [_, _], _ => rfl
    f_is_value := f_is_value, d_is_value := _, t_is_value := F_is_value, g_is_value := PySem.W.mg_of X G a_is_value, b_is_value := F_is_value.binds fun _ _ _ _ _ _ us hl => match us, hl with | [_], _ => rfl
    f_is_less := f_is_less, d_is_less := _, t_is_less := F_is_less, g_is_less := PySem.W.mg_of X G a_is_less, b_is_less := F_is_less.binds fun _ _ _ _ _ _ us hl => match us, hl with | [_, _], _ => rfl
    f_greater := f_greater, d_greater := _, t_greater := F_greater, g_greater := PySem.W.mg_of X G a_greater, b_greater := F_greater.binds fun _ _ _ _ _ _ us hl => match us, hl with | [_, _], _ => rfl
    f_greatest := f_greatest, d_greatest := _, t_greatest := F_greatest, g_greatest := PySem.W.mg_of X G a_greatest, b_greatest := F_greatest.binds fun _ _ _ _ _ _ us hl => match us, hl with | [_], _ => rfl
    f_plus := f_plus, d_plus := _, t_plus := F_plus, g_plus := PySem.W.mg_of X G a_plus, b_plus := F_plus.binds fun _ _ _ _ _ _ us hl => match us, hl with | [_, _], _ => rfl
    f_times := f_times, d_times := _, t_times := F_times, g_times := PySem.W.mg_of X G a_times, b_times := F_times.binds fun _ _ _ _ _ _ us hl => match us, hl with | [_, _], _ => rfl
    f_mean := f_mean, d_mean := _, t_mean := F_mean, g_mean := PySem.W.mg_of X G a_mean, b_mean := F_mean.binds fun _ _ _ _ _ _ us hl => match us, hl with | [_, _], _ => rfl
    f_steps := f_steps, d_steps := _, t_steps := F_steps, g_steps := PySem.W.mg_of X G a_steps, b_steps := F_steps.binds fun _ _ _ _ _ _ us hl => match us, hl with | [_], _ => rfl
    f_is_row := f_is_row, d_is_row := _, t_is_row := F_is_row, g_is_row := PySem.W.mg_of X G a_is_row, b_is_row := F_is_row.binds fun _ _ _ _ _ _ us hl => match us, hl with | [_], _ => rfl
    f_check_row := f_check_row, d_check_row := _, t_check_row := F_check_row, g_check_row := PySem.W.mg_of X G a_check_row, b_check_row := F_check_row.binds fun _ _ _ _ _ _ us hl => match us, hl with | [_], _ => rfl
    f_summed := f_summed, d_summed := _, t_summed := F_summed, g_summed := PySem.W.mg_of X G a_summed, b_summed := F_summed.binds fun _ _ _ _ _ _ us hl => match us, hl with | [_, _], _ => rfl
    f_shares := f_shares, d_shares := _, t_shares := F_shares, g_shares := PySem.W.mg_of X G a_shares, b_shares := F_shares.binds fun _ _ _ _ _ _ us hl => match us, hl with | [_, _], _ => rfl
    f_worth := f_worth, d_worth := _, t_worth := F_worth, g_worth := PySem.W.mg_of X G a_worth, b_worth := F_worth.binds fun _ _ _ _ _ _ us hl => match us, hl with | [_, _], _ => rfl
    f_price := f_price, d_price := _, t_price := F_price, g_price := PySem.W.mg_of X G a_price, b_price := F_price.binds fun _ _ _ _ _ _ us hl => match us, hl with | [_, _], _ => rfl
    f_is_bend := f_is_bend, d_is_bend := _, t_is_bend := F_is_bend, g_is_bend := PySem.W.mg_of X G a_is_bend, b_is_bend := F_is_bend.binds fun _ _ _ _ _ _ us hl => match us, hl with | [_, _, _], _ => rfl
    f_hull := f_hull, d_hull := _, t_hull := F_hull, g_hull := PySem.W.mg_of X G a_hull, b_hull := F_hull.binds fun _ _ _ _ _ _ us hl => match us, hl with | [_], _ => rfl
    f_is_poly := f_is_poly, d_is_poly := _, t_is_poly := F_is_poly, g_is_poly := PySem.W.mg_of X G a_is_poly, b_is_poly := F_is_poly.binds fun _ _ _ _ _ _ us hl => match us, hl with | [_], _ => rfl
    f_check_poly := f_check_poly, d_check_poly := _, t_check_poly := F_check_poly, g_check_poly := PySem.W.mg_of X G a_check_poly, b_check_poly := F_check_poly.binds fun _ _ _ _ _ _ us hl => match us, hl with | [_], _ => rfl
    f_product := f_product, d_product := _, t_product := F_product, g_product := PySem.W.mg_of X G a_product, b_product := F_product.binds fun _ _ _ _ _ _ us hl => match us, hl with | [_, _], _ => rfl
    f_value := f_value, d_value := _, t_value := F_value, g_value := PySem.W.mg_of X G a_value, b_value := F_value.binds fun _ _ _ _ _ _ us hl => match us, hl with | [_, _], _ => rfl
    f_between := f_between, d_between := _, t_between := F_between, g_between := PySem.W.mg_of X G a_between, b_between := F_between.binds fun _ _ _ _ _ _ us hl => match us, hl with | [_, _, _, _, _], _ => rfl
    f_full := f_full, d_full := _, t_full := F_full, g_full := PySem.W.mg_of X G a_full, b_full := F_full.binds fun _ _ _ _ _ _ us hl => match us, hl with | [_], _ => rfl
    f_is_full := f_is_full, d_is_full := _, t_is_full := F_is_full, g_is_full := PySem.W.mg_of X G a_is_full, b_is_full := F_is_full.binds fun _ _ _ _ _ _ us hl => match us, hl with | [_], _ => rfl
    f_sorted_pairs := f_sorted_pairs, d_sorted_pairs := _, t_sorted_pairs := F_sorted_pairs, g_sorted_pairs := PySem.W.mg_of X G a_sorted_pairs, b_sorted_pairs := F_sorted_pairs.binds fun _ _ _ _ _ _ us hl => match us, hl with | [_], _ => rfl
    f_corners := f_corners, d_corners := _, t_corners := F_corners, g_corners := PySem.W.mg_of X G a_corners, b_corners := F_corners.binds fun _ _ _ _ _ _ us hl => match us, hl with | [_], _ => rfl
    f_from_corners := f_from_corners, d_from_corners := _, t_from_corners := F_from_corners, g_from_corners := PySem.W.mg_of X G a_from_corners, b_from_corners := F_from_corners.binds fun _ _ _ _ _ _ us hl => match us, hl with | [_, _], _ => rfl
    f__law_tape := f__law_tape, d__law_tape := _, t__law_tape := F__law_tape, g__law_tape := PySem.W.mg_of X G a__law_tape, b__law_tape := F__law_tape.binds fun _ _ _ _ _ _ us hl => match us, hl with | [_], _ => rfl
    f__law_draw := f__law_draw, d__law_draw := _, t__law_draw := F__law_draw, g__law_draw := PySem.W.mg_of X G a__law_draw, b__law_draw := F__law_draw.binds fun _ _ _ _ _ _ us hl => match us, hl with | [_, _], _ => rfl
    f__law_pick := f__law_pick, d__law_pick := _, t__law_pick := F__law_pick, g__law_pick := PySem.W.mg_of X G a__law_pick, b__law_pick := F__law_pick.binds fun _ _ _ _ _ _ us hl => match us, hl with | [_, _], _ => rfl
    f__law_same := f__law_same, d__law_same := _, t__law_same := F__law_same, g__law_same := PySem.W.mg_of X G a__law_same, b__law_same := F__law_same.binds fun _ _ _ _ _ _ us hl => match us, hl with | [_, _], _ => rfl
    f__law_frac := f__law_frac, d__law_frac := _, t__law_frac := F__law_frac, g__law_frac := PySem.W.mg_of X G a__law_frac, b__law_frac := F__law_frac.binds fun _ _ _ _ _ _ us hl => match us, hl with | [_, _], _ => rfl
    f__law_plus := f__law_plus, d__law_plus := _, t__law_plus := F__law_plus, g__law_plus := PySem.W.mg_of X G a__law_plus, b__law_plus := F__law_plus.binds fun _ _ _ _ _ _ us hl => match us, hl with | [_, _], _ => rfl
    f__law_minus := f__law_minus, d__law_minus := _, t__law_minus := F__law_minus, g__law_minus := PySem.W.mg_of X G a__law_minus, b__law_minus := F__law_minus.binds fun _ _ _ _ _ _ us hl => match us, hl with | [_, _], _ => rfl
    f__law_times := f__law_times, d__law_times := _, t__law_times := F__law_times, g__law_times := PySem.W.mg_of X G a__law_times, b__law_times := F__law_times.binds fun _ _ _ _ _ _ us hl => match us, hl with | [_, _], _ => rfl
    f__law_below := f__law_below, d__law_below := _, t__law_below := F__law_below, g__law_below := PySem.W.mg_of X G a__law_below, b__law_below := F__law_below.binds fun _ _ _ _ _ _ us hl => match us, hl with | [_, _], _ => rfl
    f__law_number := f__law_number, d__law_number := _, t__law_number := F__law_number, g__law_number := PySem.W.mg_of X G a__law_number, b__law_number := F__law_number.binds fun _ _ _ _ _ _ us hl => match us, hl with | [_], _ => rfl
    f__law_row := f__law_row, d__law_row := _, t__law_row := F__law_row, g__law_row := PySem.W.mg_of X G a__law_row, b__law_row := F__law_row.binds fun _ _ _ _ _ _ us hl => match us, hl with | [_], _ => rfl
    f__law_corners := f__law_corners, d__law_corners := _, t__law_corners := F__law_corners, g__law_corners := PySem.W.mg_of X G a__law_corners, b__law_corners := F__law_corners.binds fun _ _ _ _ _ _ us hl => match us, hl with | [_], _ => rfl
    f_law := fa, d_law := _, t_law := F_law, g_law := PySem.W.mg_of X G a_law, b_law := F_law.binds fun _ _ _ _ _ _ us hl => match us, hl with | [_], _ => rfl
    z_abs := PySem.W.mg_none_of X G z_abs
    z_all := PySem.W.mg_none_of X G z_all
    z_any := PySem.W.mg_none_of X G z_any
    z_bool := PySem.W.mg_none_of X G z_bool
    z_enumerate := PySem.W.mg_none_of X G z_enumerate
    z_int := PySem.W.mg_none_of X G z_int
    z_isinstance := PySem.W.mg_none_of X G z_isinstance
    z_len := PySem.W.mg_none_of X G z_len
    z_range := PySem.W.mg_none_of X G z_range
    z_str := PySem.W.mg_none_of X G z_str
    z_sum := PySem.W.mg_none_of X G z_sum
    z_tuple := PySem.W.mg_none_of X G z_tuple
    z_zip := PySem.W.mg_none_of X G z_zip
    c_MOST_DEGREE := gc_int (PySem.W.mg_of X G q_MOST_DEGREE)
    c_MOST_ITEMS := gc_int (PySem.W.mg_of X G q_MOST_ITEMS)
    c_MOST_ROWS := gc_int (PySem.W.mg_of X G q_MOST_ROWS)
    c_ZERO := gc_ints (is := [0, 1]) (PySem.W.mg_of X G q_ZERO) r_ZERO (by show 2 ≤ sizeLine; decide) (.cons ⟨_, rfl⟩ (.cons ⟨_, rfl⟩ (.nil)))
  }
  exact ⟨_, fun s v => .of_eq rfl, fun base _ _ => ok_law T plain⟩
end FL.K75a
open PySem PySem.W PyProof.Rows
set_option maxHeartbeats 0 in
theorem PySem.Challenge.cw_greatsums_k75_whole_rows_as_polynomials_holds : PySem.Challenge.rw_greatsums_k75_whole_rows_as_polynomials.Holds := by
  w_on; o_law; k_head; (case hw => w_witness2)
  k_fill
  refine L2.walk_of (l := PySem.Challenge.rw_greatsums_k75_whole_rows_as_polynomials) (n := 63) (k := 9) (x := "script") (CX := fun _ => L2.CX0) (sp := fun w => FL.spLaw _) rfl (by decide) rfl ⟨rfl, by decide, by decide⟩ (fun w h Y => PySem.W.kIn_of Y) ?F (fun _ _ a ns hl _ hS => ⟨a, ns, rfl, hS, hl, fun _ => rfl⟩) (fun _ _ _ _ _ h => h)
  case F =>
    intro w mg fa h KX G hmg
    refine' FL.K75a.all_mk KX G hmg ?a_is_integer ?l_is_integer ?c_is_integer ?k_is_integer ?a_divisor ?l_divisor ?c_divisor ?k_divisor ?a_is_ratio ?l_is_ratio ?c_is_ratio ?k_is_ratio ?a_make ?l_make ?c_make ?k_make ?a_add ?l_add ?c_add ?k_add ?a_subtract ?l_subtract ?c_subtract ?k_subtract ?a_multiply ?l_multiply ?c_multiply ?k_multiply ?a_less ?l_less ?c_less ?k_less ?a_is_value ?l_is_value ?c_is_value ?k_is_value ?a_is_less ?l_is_less ?c_is_less ?k_is_less ?a_greater ?l_greater ?c_greater ?k_greater ?a_greatest ?l_greatest ?c_greatest ?k_greatest ?a_plus ?l_plus ?c_plus ?k_plus ?a_times ?l_times ?c_times ?k_times ?a_mean ?l_mean ?c_mean ?k_mean ?a_steps ?l_steps ?c_steps ?k_steps ?a_is_row ?l_is_row ?c_is_row ?k_is_row ?a_check_row ?l_check_row ?c_check_row ?k_check_row ?a_summed ?l_summed ?c_summed ?k_summed ?a_shares ?l_shares ?c_shares ?k_shares ?a_worth ?l_worth ?c_worth ?k_worth ?a_price ?l_price ?c_price ?k_price ?a_is_bend ?l_is_bend ?c_is_bend ?k_is_bend ?a_hull ?l_hull ?c_hull ?k_hull ?a_is_poly ?l_is_poly ?c_is_poly ?k_is_poly ?a_check_poly ?l_check_poly ?c_check_poly ?k_check_poly ?a_product ?l_product ?c_product ?k_product ?a_value ?l_value ?c_value ?k_value ?a_between ?l_between ?c_between ?k_between ?a_full ?l_full ?c_full ?k_full ?a_is_full ?l_is_full ?c_is_full ?k_is_full ?a_sorted_pairs ?l_sorted_pairs ?c_sorted_pairs ?k_sorted_pairs ?a_corners ?l_corners ?c_corners ?k_corners ?a_from_corners ?l_from_corners ?c_from_corners ?k_from_corners ?a__law_tape ?l__law_tape ?c__law_tape ?k__law_tape ?a__law_draw ?l__law_draw ?c__law_draw ?k__law_draw ?a__law_pick ?l__law_pick ?c__law_pick ?k__law_pick ?a__law_same ?l__law_same ?c__law_same ?k__law_same ?a__law_frac ?l__law_frac ?c__law_frac ?k__law_frac ?a__law_plus ?l__law_plus ?c__law_plus ?k__law_plus ?a__law_minus ?l__law_minus ?c__law_minus ?k__law_minus ?a__law_times ?l__law_times ?c__law_times ?k__law_times ?a__law_below ?l__law_below ?c__law_below ?k__law_below ?a__law_number ?l__law_number ?c__law_number ?k__law_number ?a__law_row ?l__law_row ?c__law_row ?k__law_row ?a__law_corners ?l__law_corners ?c__law_corners ?k__law_corners ?a_law ?l_law ?c_law ?k_law ?z_abs ?z_all ?z_any ?z_bool ?z_enumerate ?z_int ?z_isinstance ?z_len ?z_range ?z_str ?z_sum ?z_tuple ?z_zip ?q_MOST_DEGREE ?q_MOST_ITEMS ?q_MOST_ROWS ?q_ZERO ?r_ZERO
    (case a_is_integer => k_is); (case l_is_integer => k_is); (case c_is_integer => k_is); (case k_is_integer => k_is)
    (case a_divisor => k_is); (case l_divisor => k_is); (case c_divisor => k_is); (case k_divisor => k_is)
    (case a_is_ratio => k_is); (case l_is_ratio => k_is); (case c_is_ratio => k_is); (case k_is_ratio => k_is)
    (case a_make => k_is); (case l_make => k_is); (case c_make => k_is); (case k_make => k_is)
    (case a_add => k_is); (case l_add => k_is); (case c_add => k_is); (case k_add => k_is)
    (case a_subtract => k_is); (case l_subtract => k_is); (case c_subtract => k_is); (case k_subtract => k_is)
    (case a_multiply => k_is); (case l_multiply => k_is); (case c_multiply => k_is); (case k_multiply => k_is)
    (case a_less => k_is); (case l_less => k_is); (case c_less => k_is); (case k_less => k_is)
    (case a_is_value => k_is); (case l_is_value => k_is); (case c_is_value => k_is); (case k_is_value => k_is)
    (case a_is_less => k_is); (case l_is_less => k_is); (case c_is_less => k_is); (case k_is_less => k_is)
    (case a_greater => k_is); (case l_greater => k_is); (case c_greater => k_is); (case k_greater => k_is)
    (case a_greatest => k_is); (case l_greatest => k_is); (case c_greatest => k_is); (case k_greatest => k_is)
    (case a_plus => k_is); (case l_plus => k_is); (case c_plus => k_is); (case k_plus => k_is)
    (case a_times => k_is); (case l_times => k_is); (case c_times => k_is); (case k_times => k_is)
    (case a_mean => k_is); (case l_mean => k_is); (case c_mean => k_is); (case k_mean => k_is)
    (case a_steps => k_is); (case l_steps => k_is); (case c_steps => k_is); (case k_steps => k_is)
    (case a_is_row => k_is); (case l_is_row => k_is); (case c_is_row => k_is); (case k_is_row => k_is)
    (case a_check_row => k_is); (case l_check_row => k_is); (case c_check_row => k_is); (case k_check_row => k_is)
    (case a_summed => k_is); (case l_summed => k_is); (case c_summed => k_is); (case k_summed => k_is)
    (case a_shares => k_is); (case l_shares => k_is); (case c_shares => k_is); (case k_shares => k_is)
    (case a_worth => k_is); (case l_worth => k_is); (case c_worth => k_is); (case k_worth => k_is)
    (case a_price => k_is); (case l_price => k_is); (case c_price => k_is); (case k_price => k_is)
    (case a_is_bend => k_is); (case l_is_bend => k_is); (case c_is_bend => k_is); (case k_is_bend => k_is)
    (case a_hull => k_is); (case l_hull => k_is); (case c_hull => k_is); (case k_hull => k_is)
    (case a_is_poly => k_is); (case l_is_poly => k_is); (case c_is_poly => k_is); (case k_is_poly => k_is)
    (case a_check_poly => k_is); (case l_check_poly => k_is); (case c_check_poly => k_is); (case k_check_poly => k_is)
    (case a_product => k_is); (case l_product => k_is); (case c_product => k_is); (case k_product => k_is)
    (case a_value => k_is); (case l_value => k_is); (case c_value => k_is); (case k_value => k_is)
    (case a_between => k_is); (case l_between => k_is); (case c_between => k_is); (case k_between => k_is)
    (case a_full => k_is); (case l_full => k_is); (case c_full => k_is); (case k_full => k_is)
    (case a_is_full => k_is); (case l_is_full => k_is); (case c_is_full => k_is); (case k_is_full => k_is)
    (case a_sorted_pairs => k_is); (case l_sorted_pairs => k_is); (case c_sorted_pairs => k_is); (case k_sorted_pairs => k_is)
    (case a_corners => k_is); (case l_corners => k_is); (case c_corners => k_is); (case k_corners => k_is)
    (case a_from_corners => k_is); (case l_from_corners => k_is); (case c_from_corners => k_is); (case k_from_corners => k_is)
    (case a__law_tape => k_is); (case l__law_tape => k_is); (case c__law_tape => k_is); (case k__law_tape => k_is)
    (case a__law_draw => k_is); (case l__law_draw => k_is); (case c__law_draw => k_is); (case k__law_draw => k_is)
    (case a__law_pick => k_is); (case l__law_pick => k_is); (case c__law_pick => k_is); (case k__law_pick => k_is)
    (case a__law_same => k_is); (case l__law_same => k_is); (case c__law_same => k_is); (case k__law_same => k_is)
    (case a__law_frac => k_is); (case l__law_frac => k_is); (case c__law_frac => k_is); (case k__law_frac => k_is)
    (case a__law_plus => k_is); (case l__law_plus => k_is); (case c__law_plus => k_is); (case k__law_plus => k_is)
    (case a__law_minus => k_is); (case l__law_minus => k_is); (case c__law_minus => k_is); (case k__law_minus => k_is)
    (case a__law_times => k_is); (case l__law_times => k_is); (case c__law_times => k_is); (case k__law_times => k_is)
    (case a__law_below => k_is); (case l__law_below => k_is); (case c__law_below => k_is); (case k__law_below => k_is)
    (case a__law_number => k_is); (case l__law_number => k_is); (case c__law_number => k_is); (case k__law_number => k_is)
    (case a__law_row => k_is); (case l__law_row => k_is); (case c__law_row => k_is); (case k__law_row => k_is)
    (case a__law_corners => k_is); (case l__law_corners => k_is); (case c__law_corners => k_is); (case k__law_corners => k_is)
    (case a_law => k_is); (case l_law => k_is); (case c_law => k_is); (case k_law => k_is)
    (case z_abs => k_is)
    (case z_all => k_is)
    (case z_any => k_is)
    (case z_bool => k_is)
    (case z_enumerate => k_is)
    (case z_int => k_is)
    (case z_isinstance => k_is)
    (case z_len => k_is)
    (case z_range => k_is)
    (case z_str => k_is)
    (case z_sum => k_is)
    (case z_tuple => k_is)
    (case z_zip => k_is)
    (case q_MOST_DEGREE => k_is)
    (case q_MOST_ITEMS => k_is)
    (case q_MOST_ROWS => k_is)
    (case q_ZERO => k_is); (case r_ZERO => k_is)
