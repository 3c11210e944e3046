import PyProof.Rows.All
import Wide.All
import OpenK.AllK
import Wide.FinOn
import HandS.ForMost
import HandS.Wide
import HandS.Deep
import HandS.EndBits
import HandS.IsInst
import HandS.SortInts
import HandS.Conv
import PySem.Challenge.RW_unlikeroads_k01_whole_numbers
set_option Elab.async false
set_option linter.all false
set_option maxRecDepth 100000
set_option maxHeartbeats 1000000
set_option autoImplicit false
/-! Ab1: abstract values, cells, the relation to the layer's heap. -/
namespace Ab
open PySem L2

inductive Kd where
  | lst | obj (c : Nat) | dct (kvs : List (Int × Bool))
  deriving DecidableEq
inductive Vl where
  | non | bl (b : Bool) | int (i : Int) | str (s : Str)
  | tup (xs : List Vl) | rol (xs : List Vl) | new (k : Kd) (xs : List Vl) | loc (n : Nat) | fn (n : Nat)
abbrev Cell := Kd × List Vl
abbrev AH := List Cell
inductive Res (α : Type) where
  | ok (a : α) (A : AH) | exc (c : Nat) (A : AH) | bad
structure Ev where
  b : Nat
  s : List (Option Vl)
structure Tb where
  K : PySem.W.Frag
  C : Nat → Addr
  flds : Nat → List Str
  fa : Nat → Addr

mutual
def plain : Vl → Bool
  | .tup xs => plains xs
  | .rol xs => plains xs
  | .loc _ => false
  | .new _ _ => false
  | _ => true
def plains : List Vl → Bool
  | [] => true
  | x :: r => plain x && plains r
end
mutual
def lt (n : Nat) : Vl → Bool
  | .tup xs => lts n xs
  | .rol xs => lts n xs
  | .new _ xs => lts n xs
  | .loc m => decide (m < n)
  | _ => true
def lts (n : Nat) : List Vl → Bool
  | [] => true
  | x :: r => lt n x && lts n r
end
mutual
def box : Vl → AH → Vl × AH
  | .tup xs, A => if plains xs = true then (.tup xs, A) else (.tup (boxs xs A).1, (boxs xs A).2)
  | .new k xs, A => (.loc (boxs xs A).2.length, (boxs xs A).2 ++ [(k, (boxs xs A).1)])
  | d, A => (d, A)
def boxs : List Vl → AH → List Vl × AH
  | [], A => ([], A)
  | x :: r, A => ((box x A).1 :: (boxs r (box x A).2).1, (boxs r (box x A).2).2)
end
def mapV (f : Vl → List Nat → Option (Vl × List Nat)) : List Vl → List Nat → Option (List Vl × List Nat)
  | [], vis => some ([], vis)
  | x :: r, vis => match f x vis with
    | none => none
    | some (y, v1) => match mapV f r v1 with
      | none => none
      | some (ys, v2) => some (y :: ys, v2)
def unb (n : Nat) (A : AH) : Nat → Vl → List Nat → Option (Vl × List Nat)
  | 0, d, vis => if plain d = true then some (d, vis) else none
  | f + 1, d, vis => if plain d = true then some (d, vis) else match d with
    | .loc m => if m < n then some (.loc m, vis) else if vis.contains m = true then none else match A[m]? with
      | none => none
      | some (k, xs) => match mapV (unb n A f) xs (m :: vis) with
        | none => none
        | some (ys, v) => some (.new k ys, v)
    | .tup xs => match mapV (unb n A f) xs vis with
      | none => none
      | some (ys, v) => some (.tup ys, v)
    | .new k xs => match mapV (unb n A f) xs vis with
      | none => none
      | some (ys, v) => some (.new k ys, v)
    | _ => none
def gc (n : Nat) (d : Vl) (A : AH) : Res Vl := if A.length ≤ n then .ok d A else match unb n A 5 d [] with
  | some (d', _) => .ok d' (A.take n)
  | none => .ok d A

/-! ### plain things -/
mutual
theorem lt_plain (n : Nat) : ∀ d : Vl, plain d = true → lt n d = true
  | .non, _ => rfl
  | .bl _, _ => rfl
  | .int _, _ => rfl
  | .str _, _ => rfl
  | .fn _, _ => rfl
  | .tup xs, h => by
    rw [lt]; rw [plain] at h; exact lts_plains n xs h
  | .rol xs, h => by
    rw [lt]; rw [plain] at h; exact lts_plains n xs h
  | .new _ _, h => by rw [plain] at h; cases h
  | .loc _, h => by rw [plain] at h; cases h
theorem lts_plains (n : Nat) : ∀ xs : List Vl, plains xs = true → lts n xs = true
  | [], _ => rfl
  | x :: r, h => by
    rw [plains, Bool.and_eq_true] at h
    rw [lts, lt_plain n x h.1, lts_plains n r h.2]; rfl
end
theorem box_plain : ∀ (d : Vl) (A : AH), plain d = true → box d A = (d, A)
  | .non, _, _ => rfl
  | .bl _, _, _ => rfl
  | .int _, _, _ => rfl
  | .str _, _, _ => rfl
  | .fn _, _, _ => rfl
  | .tup xs, A, h => by
    rw [plain] at h
    rw [box, if_pos h]
  | .rol _, _, _ => rfl
  | .new _ _, _, h => by rw [plain] at h; cases h
  | .loc _, _, h => by rw [plain] at h; cases h
theorem boxs_plains : ∀ (xs : List Vl) (A : AH), plains xs = true → boxs xs A = (xs, A)
  | [], _, _ => rfl
  | x :: r, A, h => by
    rw [plains, Bool.and_eq_true] at h
    rw [boxs, box_plain x A h.1, boxs_plains r A h.2]
theorem unb_plain {n : Nat} {A : AH} {f : Nat} {d : Vl} {vis : List Nat} (h : plain d = true) : unb n A f d vis = some (d, vis) := by
  cases f <;> simp [unb, h]
theorem mapV_plains {n : Nat} {A : AH} {f : Nat} : ∀ {xs : List Vl} {vis : List Nat}, plains xs = true → mapV (unb n A f) xs vis = some (xs, vis)
  | [], _, _ => rfl
  | x :: r, vis, h => by
    rw [plains, Bool.and_eq_true] at h
    simp [mapV, unb_plain h.1, mapV_plains h.2]
theorem gc_plain {n : Nat} {d : Vl} {A : AH} (h : plain d = true) : gc n d A = .ok d (A.take n) := by
  unfold gc
  split
  · rw [List.take_of_length_le (by assumption)]
  · rw [unb_plain h]

/-! ### the relation -/
def imm : HO → Bool
  | .tup _ => true
  | .frz _ _ => true
  | _ => false
def KOk (T : Tb) : Kd → List V → HO → Prop
  | .lst, vs, o => o = .lst vs
  | .obj c, vs, o => ∃ dx, o = .ins (T.C c) dx ((T.flds c).zip vs) ∧ vs.length ≤ (T.flds c).length
  | .dct kvs, vs, o => vs = [] ∧ o = .dK (kvs.map fun p => (Sum.inl p.1, V.bl p.2))
theorem KOk.mut {T : Tb} {k : Kd} {vs : List V} {o : HO} (h : KOk T k vs o) : imm o = false := by
  cases k with
  | lst => rw [show o = .lst vs from h]; rfl
  | obj c => obtain ⟨dx, rfl, _⟩ := h; rfl
  | dct kvs => obtain ⟨_, rfl⟩ := h; rfl
def ROk (T : Tb) (H : Hp) (a : Addr) (xs : List V) : Prop :=
  (∃ o, H a = some (.frz o (.lst xs))) ∨
    ∃ (o : Obj) (its : Array Value) (n : Nat), T.K.lookup a = some o ∧ o.cls = .type "list" ∧ o.dict = none ∧ o.data = .seq its n ∧ its.size ≤ sizeLine ∧ Vals xs its.toList
theorem ROk.sq {T : Tb} {H : Hp} {a : Addr} {xs : List V} (h : ROk T H a xs) : SqL T.K H a xs := by
  rcases h with h | h
  · exact .inl (.inr h)
  · exact .inr h
mutual
inductive Rp (T : Tb) (ι : List Addr) (H : Hp) : V → Vl → List Addr → Prop
  | non : Rp T ι H .non .non []
  | bl (b : Bool) : Rp T ι H (.bl b) (.bl b) []
  | int (i : Int) : Rp T ι H (.int i) (.int i) []
  | str (x : Str) : Rp T ι H (.str x) (.str x) []
  | fn (n : Nat) : Rp T ι H (.ref (T.fa n)) (.fn n) []
  | loc {n : Nat} {a : Addr} : ι[n]? = some a → Rp T ι H (.ref a) (.loc n) []
  | tup {a : Addr} {vs : List V} {xs : List Vl} {fp : List Addr} : SqT T.K H a vs → Rps T ι H vs xs fp → Rp T ι H (.ref a) (.tup xs) fp
  | rol {a : Addr} {vs : List V} {xs : List Vl} : ROk T H a vs → Rps T ι H vs xs [] → Rp T ι H (.ref a) (.rol xs) []
  | new {a : Addr} {k : Kd} {o : HO} {vs : List V} {xs : List Vl} {fp : List Addr} : H a = some o → KOk T k vs o → Rps T ι H vs xs fp → Rp T ι H (.ref a) (.new k xs) (fp ++ [a])
inductive Rps (T : Tb) (ι : List Addr) (H : Hp) : List V → List Vl → List Addr → Prop
  | nil : Rps T ι H [] [] []
  | cons {v : V} {d : Vl} {fp : List Addr} {vs : List V} {ds : List Vl} {fq : List Addr} : Rp T ι H v d fp → Rps T ι H vs ds fq → Rps T ι H (v :: vs) (d :: ds) (fp ++ fq)
end
structure Ext (ι : List Addr) (H : Hp) (ι' : List Addr) (H' : Hp) : Prop where
  pre : ∃ nw, ι' = ι ++ nw ∧ ∀ a ∈ nw, H a = none
  keep : ∀ a o, H a = some o → (a ∉ ι ∨ imm o = true) → H' a = some o
  dom : ∀ a o, H a = some o → ∃ o', H' a = some o'
structure Wd (T : Tb) (ι : List Addr) (A : AH) (H : Hp) : Prop where
  len : ι.length = A.length
  nd : ι.Nodup
  cel : ∀ (n : Nat) (k : Kd) (xs : List Vl) (a : Addr), A[n]? = some (k, xs) → ι[n]? = some a → ∃ o vs, H a = some o ∧ KOk T k vs o ∧ Rps T ι H vs xs []
def CL (n : Nat) (A : AH) : Prop := ∀ (m : Nat) (k : Kd) (xs : List Vl), m < n → A[m]? = some (k, xs) → lts n xs = true
structure Nx (T : Tb) (b : Nat) (ι : List Addr) (A : AH) (H : Hp) (ι' : List Addr) (A' : AH) (H' : Hp) : Prop where
  wd : Wd T ι' A' H'
  ext : Ext ι H ι' H'
  cl : ∀ n, n ≤ b → CL n A → CL n A'

section
variable {T : Tb} {ι ι' : List Addr} {H H' H0 : Hp} {A A' : AH} {b : Nat}
theorem Ext.refl : Ext ι H ι H := ⟨⟨[], by simp, by simp⟩, fun _ _ h _ => h, fun _ o h => ⟨o, h⟩⟩
theorem Ext.back (e : Ext ι H ι' H') {a : Addr} (h : H' a = none) : H a = none := by
  cases q : H a with
  | none => rfl
  | some o =>
    obtain ⟨o', z⟩ := e.dom a o q
    rw [h] at z; cases z
theorem Ext.trans {ι2 : List Addr} {H2 : Hp} (e : Ext ι H ι' H') (f : Ext ι' H' ι2 H2) : Ext ι H ι2 H2 := by
  obtain ⟨nw, rfl, hn⟩ := e.pre
  obtain ⟨nv, rfl, hv⟩ := f.pre
  refine ⟨⟨nw ++ nv, by simp, fun a ha => ?_⟩, fun a o h k => ?_, fun a o h => ?_⟩
  · rcases List.mem_append.mp ha with q | q
    · exact hn a q
    · exact e.back (hv a q)
  · refine f.keep a o (e.keep a o h k) ?_
    rcases k with k | k
    · refine .inl fun z => ?_
      rcases List.mem_append.mp z with z | z
      · exact k z
      · rw [hn a z] at h; cases h
    · exact .inr k
  · obtain ⟨o1, h1⟩ := e.dom a o h
    exact f.dom a o1 h1
theorem Nx.refl (w : Wd T ι A H) : Nx T b ι A H ι A H := ⟨w, .refl, fun _ _ h => h⟩
theorem Nx.trans {ι2 : List Addr} {H2 : Hp} {A2 : AH} (e : Nx T b ι A H ι' A' H') (f : Nx T b ι' A' H' ι2 A2 H2) : Nx T b ι A H ι2 A2 H2 := ⟨f.wd, e.ext.trans f.ext, fun n h z => f.cl n h (e.cl n h z)⟩
theorem Wd.has (w : Wd T ι A H) {a : Addr} (h : a ∈ ι) : ∃ o, H a = some o ∧ imm o = false := by
  obtain ⟨n, hn⟩ := List.mem_iff_getElem?.mp h
  have hl : n < A.length := by
    rw [← w.len]
    exact (List.getElem?_eq_some_iff.mp hn).1
  obtain ⟨o, vs, h1, h2, _⟩ := w.cel n A[n].1 A[n].2 a (by rw [List.getElem?_eq_getElem hl]) hn
  exact ⟨o, h1, h2.mut⟩
theorem Wd.fresh (w : Wd T ι A H) {a : Addr} (h : H a = none) : a ∉ ι := fun z => by
  obtain ⟨o, q, _⟩ := w.has z
  rw [h] at q; cases q
theorem Ext.sqT (e : Ext ι H ι' H') {a : Addr} {vs : List V} (h : SqT T.K H a vs) : SqT T.K H' a vs := by
  rcases h with (h | ⟨o, h⟩) | h
  · exact .inl (.inl (e.keep a _ h (.inr rfl)))
  · exact .inl (.inr ⟨o, e.keep a _ h (.inr rfl)⟩)
  · exact .inr h
theorem Ext.rok (e : Ext ι H ι' H') {a : Addr} {vs : List V} (h : ROk T H a vs) : ROk T H' a vs := by
  rcases h with ⟨o, h⟩ | h
  · exact .inl ⟨o, e.keep a _ h (.inr rfl)⟩
  · exact .inr h
theorem Ext.at (e : Ext ι H ι' H') {n : Nat} {a : Addr} (h : ι[n]? = some a) : ι'[n]? = some a := by
  obtain ⟨nw, rfl, _⟩ := e.pre
  rw [List.getElem?_append_left (List.getElem?_eq_some_iff.mp h).1]
  exact h
mutual
theorem Rp.mono (e : Ext ι H ι' H') : ∀ (d : Vl) (v : V) (fp : List Addr), Rp T ι H v d fp → (∀ a ∈ fp, a ∉ ι) → Rp T ι' H' v d fp
  | .non, _, _, h, _ => by cases h; exact .non
  | .bl b, _, _, h, _ => by cases h; exact .bl b
  | .int b, _, _, h, _ => by cases h; exact .int b
  | .str b, _, _, h, _ => by cases h; exact .str b
  | .fn b, _, _, h, _ => by cases h; exact .fn b
  | .loc n, _, _, h, _ => by
    cases h with
    | loc h => exact .loc (e.at h)
  | .tup xs, _, _, h, hf => by
    cases h with
    | tup h1 h2 => exact .tup (e.sqT h1) (Rps.mono e xs _ _ h2 hf)
  | .rol xs, _, _, h, hf => by
    cases h with
    | rol h1 h2 => exact .rol (e.rok h1) (Rps.mono e xs _ _ h2 hf)
  | .new k xs, _, _, h, hf => by
    cases h with
    | new h1 h2 h3 => exact .new (e.keep _ _ h1 (.inl (hf _ (by simp)))) h2 (Rps.mono e xs _ _ h3 fun a ha => hf a (by simp [ha]))
theorem Rps.mono (e : Ext ι H ι' H') : ∀ (ds : List Vl) (vs : List V) (fp : List Addr), Rps T ι H vs ds fp → (∀ a ∈ fp, a ∉ ι) → Rps T ι' H' vs ds fp
  | [], _, _, h, _ => by cases h; exact .nil
  | d :: ds, _, _, h, hf => by
    cases h with
    | cons h1 h2 => exact .cons (Rp.mono e d _ _ h1 fun a ha => hf a (by simp [ha])) (Rps.mono e ds _ _ h2 fun a ha => hf a (by simp [ha]))
end
theorem ext_app (w : Wd T ι A H) {nw : List Addr} (h : ∀ a ∈ nw, a ∉ ι) : ∀ (n : Nat) (a : Addr), ι[n]? = some a → (ι ++ nw)[n]? = some a := fun n a e => by
  rw [List.getElem?_append_left (List.getElem?_eq_some_iff.mp e).1]; exact e
-- more places, the same heap
mutual
theorem Rp.app (nw : List Addr) : ∀ (d : Vl) (v : V) (fp : List Addr), Rp T ι H v d fp → Rp T (ι ++ nw) H v d fp
  | .non, _, _, h => by cases h; exact .non
  | .bl b, _, _, h => by cases h; exact .bl b
  | .int b, _, _, h => by cases h; exact .int b
  | .str b, _, _, h => by cases h; exact .str b
  | .fn b, _, _, h => by cases h; exact .fn b
  | .loc n, _, _, h => by
    cases h with
    | loc h => exact .loc (by rw [List.getElem?_append_left (List.getElem?_eq_some_iff.mp h).1]; exact h)
  | .tup xs, _, _, h => by
    cases h with
    | tup h1 h2 => exact .tup h1 (Rps.app nw xs _ _ h2)
  | .rol xs, _, _, h => by
    cases h with
    | rol h1 h2 => exact .rol h1 (Rps.app nw xs _ _ h2)
  | .new k xs, _, _, h => by
    cases h with
    | new h1 h2 h3 => exact .new h1 h2 (Rps.app nw xs _ _ h3)
theorem Rps.app (nw : List Addr) : ∀ (ds : List Vl) (vs : List V) (fp : List Addr), Rps T ι H vs ds fp → Rps T (ι ++ nw) H vs ds fp
  | [], _, _, h => by cases h; exact .nil
  | d :: ds, _, _, h => by
    cases h with
    | cons h1 h2 => exact .cons (Rp.app nw d _ _ h1) (Rps.app nw ds _ _ h2)
end
mutual
theorem Rp.fp_plain : ∀ (d : Vl) (v : V) (fp : List Addr), Rp T ι H v d fp → plain d = true → fp = []
  | .non, _, _, h, _ => by cases h; rfl
  | .bl b, _, _, h, _ => by cases h; rfl
  | .int b, _, _, h, _ => by cases h; rfl
  | .str b, _, _, h, _ => by cases h; rfl
  | .fn b, _, _, h, _ => by cases h; rfl
  | .loc n, _, _, h, hp => by cases h; rfl
  | .tup xs, _, _, h, hp => by
    cases h with
    | tup h1 h2 => rw [plain] at hp; exact Rps.fp_plain xs _ _ h2 hp
  | .rol xs, _, _, h, _ => by cases h; rfl
  | .new k xs, _, _, h, hp => by rw [plain] at hp; cases hp
theorem Rps.fp_plain : ∀ (ds : List Vl) (vs : List V) (fp : List Addr), Rps T ι H vs ds fp → plains ds = true → fp = []
  | [], _, _, h, _ => by cases h; rfl
  | d :: ds, _, _, h, hp => by
    rw [plains, Bool.and_eq_true] at hp
    cases h with
    | cons h1 h2 => rw [Rp.fp_plain d _ _ h1 hp.1, Rps.fp_plain ds _ _ h2 hp.2]; rfl
end
mutual
/-- places below n alone -/
theorem Rp.take {n : Nat} : ∀ (d : Vl) (v : V) (fp : List Addr), Rp T ι H v d fp → lt n d = true → Rp T (ι.take n) H v d fp
  | .non, _, _, h, _ => by cases h; exact .non
  | .bl b, _, _, h, _ => by cases h; exact .bl b
  | .int b, _, _, h, _ => by cases h; exact .int b
  | .str b, _, _, h, _ => by cases h; exact .str b
  | .fn b, _, _, h, _ => by cases h; exact .fn b
  | .loc m, _, _, h, hl => by
    cases h with
    | loc h =>
      rw [lt] at hl
      exact .loc (by rw [List.getElem?_take_of_lt (of_decide_eq_true hl)]; exact h)
  | .tup xs, _, _, h, hl => by
    rw [lt] at hl
    cases h with
    | tup h1 h2 => exact .tup h1 (Rps.take xs _ _ h2 hl)
  | .rol xs, _, _, h, hl => by
    rw [lt] at hl
    cases h with
    | rol h1 h2 => exact .rol h1 (Rps.take xs _ _ h2 hl)
  | .new k xs, _, _, h, hl => by
    rw [lt] at hl
    cases h with
    | new h1 h2 h3 => exact .new h1 h2 (Rps.take xs _ _ h3 hl)
theorem Rps.take {n : Nat} : ∀ (ds : List Vl) (vs : List V) (fp : List Addr), Rps T ι H vs ds fp → lts n ds = true → Rps T (ι.take n) H vs ds fp
  | [], _, _, h, _ => by cases h; exact .nil
  | d :: ds, _, _, h, hl => by
    rw [lts, Bool.and_eq_true] at hl
    cases h with
    | cons h1 h2 => exact .cons (Rp.take d _ _ h1 hl.1) (Rps.take ds _ _ h2 hl.2)
end
mutual

theorem Rp.lt : ∀ (d : Vl) (v : V) (fp : List Addr), Rp T ι H v d fp → Ab.lt ι.length d = true
  | .non, _, _, _ => rfl
  | .bl b, _, _, _ => rfl
  | .int b, _, _, _ => rfl
  | .str b, _, _, _ => rfl
  | .fn b, _, _, _ => rfl
  | .loc m, _, _, h => by
    cases h with
    | loc h => rw [Ab.lt]; exact decide_eq_true (List.getElem?_eq_some_iff.mp h).1
  | .tup xs, _, _, h => by
    cases h with
    | tup h1 h2 => rw [Ab.lt]; exact Rps.lt xs _ _ h2
  | .rol xs, _, _, h => by
    cases h with
    | rol h1 h2 => rw [Ab.lt]; exact Rps.lt xs _ _ h2
  | .new k xs, _, _, h => by
    cases h with
    | new h1 h2 h3 => rw [Ab.lt]; exact Rps.lt xs _ _ h3
theorem Rps.lt : ∀ (ds : List Vl) (vs : List V) (fp : List Addr), Rps T ι H vs ds fp → lts ι.length ds = true
  | [], _, _, _ => rfl
  | d :: ds, _, _, h => by
    cases h with
    | cons h1 h2 => rw [lts, Rp.lt d _ _ h1, Rps.lt ds _ _ h2]; rfl
end
theorem Wd.cl (w : Wd T ι A H) : CL A.length A := fun m k xs hm h => by
  have hl : m < ι.length := by rw [w.len]; exact hm
  obtain ⟨o, vs, _, _, r⟩ := w.cel m k xs ι[m] h (List.getElem?_eq_getElem hl)
  have := Rps.lt xs vs [] r
  rw [w.len] at this
  exact this
theorem Wd.take (w : Wd T ι A H) {n : Nat} (c : CL n A) (hn : n ≤ A.length) : Wd T (ι.take n) (A.take n) H := by
  refine ⟨by rw [List.length_take, List.length_take, w.len], w.nd.sublist (List.take_sublist _ _), fun m k xs a h1 h2 => ?_⟩
  have hm : m < n := by
    have := (List.getElem?_eq_some_iff.mp h1).1
    rw [List.length_take] at this
    omega
  rw [List.getElem?_take_of_lt hm] at h1 h2
  obtain ⟨o, vs, e1, e2, r⟩ := w.cel m k xs a h1 h2
  exact ⟨o, vs, e1, e2, Rps.take xs vs [] r (c m k xs hm h1)⟩
/-- a new object that no place knows -/
theorem Wd.upd (w : Wd T ι A H) {p : Addr} {o : HO} (h : H p = none) : Wd T ι A (L2.upd H p o) := by
  have e : Ext ι H ι (L2.upd H p o) := ⟨⟨[], by simp, by simp⟩, fun a u q _ => by rw [upd_ne (ne_of_none q h)]; exact q, fun a u q => ⟨u, by rw [upd_ne (ne_of_none q h)]; exact q⟩⟩
  refine ⟨w.len, w.nd, fun n k xs a h1 h2 => ?_⟩
  obtain ⟨u, vs, e1, e2, r⟩ := w.cel n k xs a h1 h2
  exact ⟨u, vs, by rw [upd_ne (ne_of_none e1 h)]; exact e1, e2, Rps.mono e xs vs [] r (by simp)⟩
theorem Ext.upd {p : Addr} {o : HO} (e : Ext ι H ι' H') (h : H' p = none) : Ext ι H ι' (L2.upd H' p o) := ⟨e.pre, fun a u q k => by
  have := e.keep a u q k
  rw [upd_ne (ne_of_none this h)]; exact this, fun a u q => by
  obtain ⟨u', z⟩ := e.dom a u q
  exact ⟨u', by rw [upd_ne (ne_of_none z h)]; exact z⟩⟩
theorem Nx.upd {p : Addr} {o : HO} (e : Nx T b ι A H ι' A' H') (h : H' p = none) : Nx T b ι A H ι' A' (L2.upd H' p o) := ⟨e.wd.upd h, e.ext.upd h, e.cl⟩
theorem CL.pre {n : Nat} (h : CL n A) (hp : ∀ m : Nat, m < n → A'[m]? = A[m]?) : CL n A' := fun m k xs hm e => h m k xs hm (by rw [← hp m hm]; exact e)
end
end Ab

set_option Elab.async false
set_option linter.all false
set_option maxRecDepth 100000
set_option maxHeartbeats 1000000
set_option autoImplicit false
/-! Ab2: boxing, cutting back, the readings of code. -/
namespace Ab
open PySem L2
section
variable {T : Tb} {ι ι' ι0 : List Addr} {H H' H0 : Hp} {A A' A0 : AH} {b : Nat}
theorem Wd.push (w : Wd T ι A H) {a : Addr} {o : HO} {k : Kd} {vs : List V} {xs : List Vl} (ha : a ∉ ι) (h1 : H a = some o) (h2 : KOk T k vs o) (h3 : Rps T ι H vs xs []) : Wd T (ι ++ [a]) (A ++ [(k, xs)]) H := by
  refine ⟨by simp [w.len], ?_, fun n k' ys c e1 e2 => ?_⟩
  · rw [List.nodup_append]
    refine ⟨w.nd, by simp, fun x hx y hy => ?_⟩
    rw [List.mem_singleton] at hy
    subst hy
    exact fun z => ha (z ▸ hx)
  · by_cases hn : n < A.length
    · rw [List.getElem?_append_left hn] at e1
      rw [List.getElem?_append_left (by rw [w.len]; exact hn)] at e2
      obtain ⟨u, us, q1, q2, q3⟩ := w.cel n k' ys c e1 e2
      exact ⟨u, us, q1, q2, Rps.app [a] ys us [] q3⟩
    · have hl := (List.getElem?_eq_some_iff.mp e1).1
      have hn2 : n = A.length := by simp at hl; omega
      subst hn2
      rw [List.getElem?_append_right (Nat.le_refl _), Nat.sub_self] at e1
      rw [List.getElem?_append_right (by rw [w.len]; exact Nat.le_refl _), w.len, Nat.sub_self] at e2
      cases e1; cases e2
      exact ⟨o, vs, h1, h2, Rps.app [a] xs vs [] h3⟩
mutual
theorem box_ok : ∀ (d : Vl) (v : V) (fp : List Addr) (ι : List Addr) (A : AH), Wd T ι A H → Rp T ι H v d fp → fp.Nodup → (∀ a ∈ fp, a ∉ ι) →
    Wd T (ι ++ fp) (box d A).2 H ∧ Rp T (ι ++ fp) H v (box d A).1 [] ∧ ∃ ex, (box d A).2 = A ++ ex
  | .non, _, _, ι, A, w, h, _, _ => by cases h; exact ⟨by simpa [box] using w, .non, [], by simp [box]⟩
  | .bl b, _, _, ι, A, w, h, _, _ => by cases h; exact ⟨by simpa [box] using w, .bl b, [], by simp [box]⟩
  | .int b, _, _, ι, A, w, h, _, _ => by cases h; exact ⟨by simpa [box] using w, .int b, [], by simp [box]⟩
  | .str b, _, _, ι, A, w, h, _, _ => by cases h; exact ⟨by simpa [box] using w, .str b, [], by simp [box]⟩
  | .fn b, _, _, ι, A, w, h, _, _ => by cases h; exact ⟨by simpa [box] using w, .fn b, [], by simp [box]⟩
  | .loc n, _, _, ι, A, w, h, _, _ => by
    cases h with
    | loc h => exact ⟨by simpa [box] using w, by rw [List.append_nil]; exact .loc h, [], by simp [box]⟩
  | .rol xs, _, _, ι, A, w, h, _, _ => by
    cases h with
    | rol h1 h2 => exact ⟨by simpa [box] using w, by rw [List.append_nil]; exact .rol h1 h2, [], by simp [box]⟩
  | .tup xs, _, fp, ι, A, w, h, nd, hf => by
    cases h with
    | tup h1 h2 =>
      rw [box]
      split
      · rename_i hp
        have e := Rps.fp_plain xs _ _ h2 hp
        subst e
        exact ⟨by simpa using w, by rw [List.append_nil]; exact .tup h1 h2, [], by simp⟩
      · obtain ⟨q1, q2, ex, q3⟩ := boxs_ok xs _ fp ι A w h2 nd hf
        exact ⟨q1, .tup h1 q2, ex, q3⟩
  | .new k xs, _, _, ι, A, w, h, nd, hf => by
    cases h with
    | @new a _ o vs _ fp h1 h2 h3 =>
      rw [List.nodup_append] at nd
      obtain ⟨n1, n2, n3⟩ := nd
      obtain ⟨q1, q2, ex, q3⟩ := boxs_ok xs vs fp ι A w h3 n1 fun x hx => hf x (by simp [hx])
      have ha : a ∉ ι ++ fp := fun z => by
        rcases List.mem_append.mp z with z | z
        · exact hf a (by simp) z
        · exact n3 a z a (by simp) rfl
      have q4 := q1.push ha h1 h2 q2
      rw [List.append_assoc] at q4
      refine ⟨by rw [box]; exact q4, ?_, ex ++ [(k, (boxs xs A).1)], by rw [box, q3]; simp⟩
      rw [box]
      refine .loc ?_
      rw [← q1.len, ← List.append_assoc, List.getElem?_append_right (Nat.le_refl _), Nat.sub_self]
      rfl
theorem boxs_ok : ∀ (ds : List Vl) (vs : List V) (fp : List Addr) (ι : List Addr) (A : AH), Wd T ι A H → Rps T ι H vs ds fp → fp.Nodup → (∀ a ∈ fp, a ∉ ι) →
    Wd T (ι ++ fp) (boxs ds A).2 H ∧ Rps T (ι ++ fp) H vs (boxs ds A).1 [] ∧ ∃ ex, (boxs ds A).2 = A ++ ex
  | [], _, _, ι, A, w, h, _, _ => by cases h; exact ⟨by simpa [boxs] using w, .nil, [], by simp [boxs]⟩
  | d :: ds, _, _, ι, A, w, h, nd, hf => by
    cases h with
    | @cons v _ fp vs _ fq h1 h2 =>
      rw [List.nodup_append] at nd
      obtain ⟨n1, n2, n3⟩ := nd
      obtain ⟨q1, q2, ex, q3⟩ := box_ok d v fp ι A w h1 n1 fun x hx => hf x (by simp [hx])
      obtain ⟨p1, p2, ey, p3⟩ := boxs_ok ds vs fq (ι ++ fp) _ q1 (Rps.app fp ds vs fq h2) n2 fun x hx z => by
        rcases List.mem_append.mp z with z | z
        · exact hf x (by simp [hx]) z
        · exact n3 x z x hx rfl
      rw [List.append_assoc] at p1 p2
      refine ⟨by rw [boxs]; exact p1, ?_, ex ++ ey, by rw [boxs, p3, q3]; simp⟩
      rw [boxs]
      have q5 := Rp.app fq _ _ _ q2
      rw [List.append_assoc] at q5
      exact .cons (fp := []) (fq := []) q5 p2
end
theorem mapV_ok {n f : Nat} (w : Wd T ι A H)
    (ih : ∀ (d : Vl) (v : V) (fp : List Addr) (vis : List Nat) (d' : Vl) (vis' : List Nat), Rp T ι H v d fp → fp.Nodup → (∀ a ∈ fp, a ∉ ι) → unb n A f d vis = some (d', vis') →
      ∃ fq, Rp T (ι.take n) H v d' fq ∧ fq.Nodup ∧ (∀ m ∈ vis, m ∈ vis') ∧ ∀ a ∈ fq, a ∈ fp ∨ ∃ m, n ≤ m ∧ m ∉ vis ∧ m ∈ vis' ∧ ι[m]? = some a) :
    ∀ (ds : List Vl) (vs : List V) (fp : List Addr) (vis : List Nat) (ds' : List Vl) (vis' : List Nat), Rps T ι H vs ds fp → fp.Nodup → (∀ a ∈ fp, a ∉ ι) → mapV (unb n A f) ds vis = some (ds', vis') →
      ∃ fq, Rps T (ι.take n) H vs ds' fq ∧ fq.Nodup ∧ (∀ m ∈ vis, m ∈ vis') ∧ ∀ a ∈ fq, a ∈ fp ∨ ∃ m, n ≤ m ∧ m ∉ vis ∧ m ∈ vis' ∧ ι[m]? = some a
  | [], _, _, vis, _, _, h, _, _, e => by
    cases h
    cases e
    exact ⟨[], .nil, by simp, fun _ h => h, by simp⟩
  | d :: ds, _, _, vis, _, _, h, nd, hf, e => by
    cases h with
    | @cons v _ fp vs _ fq h1 h2 =>
      rw [List.nodup_append] at nd
      obtain ⟨n1, n2, n3⟩ := nd
      rw [mapV] at e
      split at e
      · cases e
      · rename_i y v1 e1
        split at e
        · cases e
        · rename_i ys v2 e2
          cases e
          obtain ⟨g1, r1, k1, s1, t1⟩ := ih d v fp vis y v1 h1 n1 (fun x hx => hf x (by simp [hx])) e1
          obtain ⟨g2, r2, k2, s2, t2⟩ := mapV_ok w ih ds vs fq v1 ys _ h2 n2 (fun x hx => hf x (by simp [hx])) e2
          refine ⟨g1 ++ g2, .cons r1 r2, ?_, fun m hm => s2 m (s1 m hm), fun a ha => ?_⟩
          · rw [List.nodup_append]
            refine ⟨k1, k2, fun x hx y hy z => ?_⟩
            subst z
            rcases t1 x hx with z1 | ⟨m1, c1, c2, c3, c4⟩
            · rcases t2 x hy with z2 | ⟨m2, d1, d2, d3, d4⟩
              · exact n3 x z1 x z2 rfl
              · exact hf x (by simp [z1]) (List.mem_of_getElem? d4)
            · rcases t2 x hy with z2 | ⟨m2, d1, d2, d3, d4⟩
              · exact hf x (by simp [z2]) (List.mem_of_getElem? c4)
              · have : m1 = m2 := by
                  obtain ⟨l1, _⟩ := List.getElem?_eq_some_iff.mp c4
                  exact (List.getElem?_inj l1 w.nd).mp (c4.trans d4.symm)
                subst this
                exact d2 c3
          · rcases List.mem_append.mp ha with q | q
            · rcases t1 a q with z1 | ⟨m1, c1, c2, c3, c4⟩
              · exact .inl (by simp [z1])
              · exact .inr ⟨m1, c1, c2, s2 m1 c3, c4⟩
            · rcases t2 a q with z1 | ⟨m1, c1, c2, c3, c4⟩
              · exact .inl (by simp [z1])
              · exact .inr ⟨m1, c1, fun z => c2 (s1 m1 z), c3, c4⟩
theorem unb_ok {n : Nat} (w : Wd T ι A H) : ∀ (f : Nat) (d : Vl) (v : V) (fp : List Addr) (vis : List Nat) (d' : Vl) (vis' : List Nat), Rp T ι H v d fp → fp.Nodup → (∀ a ∈ fp, a ∉ ι) → unb n A f d vis = some (d', vis') →
      ∃ fq, Rp T (ι.take n) H v d' fq ∧ fq.Nodup ∧ (∀ m ∈ vis, m ∈ vis') ∧ ∀ a ∈ fq, a ∈ fp ∨ ∃ m, n ≤ m ∧ m ∉ vis ∧ m ∈ vis' ∧ ι[m]? = some a
  | 0, d, v, fp, vis, d', vis', h, nd, hf, e => by
    rw [unb] at e
    split at e
    · rename_i hp
      cases e
      have e := Rp.fp_plain d v fp h hp
      subst e
      exact ⟨[], Rp.take d v [] h (lt_plain n d hp), by simp, fun _ h => h, by simp⟩
    · cases e
  | f + 1, d, v, fp, vis, d', vis', h, nd, hf, e => by
    rw [unb.eq_def] at e
    dsimp only at e
    split at e
    · rename_i hp
      cases e
      have e := Rp.fp_plain d v fp h hp
      subst e
      exact ⟨[], Rp.take d v [] h (lt_plain n d hp), by simp, fun _ h => h, by simp⟩
    · cases h with
      | @loc m a hl =>
        dsimp only at e
        split at e
        · rename_i hm
          cases e
          exact ⟨[], .loc (by rw [List.getElem?_take_of_lt hm]; exact hl), by simp, fun _ h => h, by simp⟩
        · rename_i hm
          split at e
          · cases e
          · rename_i hc
            split at e
            · cases e
            · rename_i k xs ec
              split at e
              · cases e
              · rename_i ys v2 em
                cases e
                obtain ⟨o, vs, q1, q2, q3⟩ := w.cel m k xs a ec hl
                obtain ⟨g, r, kd, s, t⟩ := mapV_ok w (unb_ok w f) xs vs [] (m :: vis) ys _ q3 (by simp) (by simp) em
                refine ⟨g ++ [a], .new q1 q2 r, ?_, fun x hx => s x (by simp [hx]), fun x hx => ?_⟩
                · rw [List.nodup_append]
                  refine ⟨kd, by simp, fun x hx y hy z => ?_⟩
                  rw [List.mem_singleton] at hy
                  subst hy
                  subst z
                  rcases t x hx with z1 | ⟨m1, c1, c2, c3, c4⟩
                  · cases z1
                  · obtain ⟨l1, _⟩ := List.getElem?_eq_some_iff.mp c4
                    have : m1 = m := (List.getElem?_inj l1 w.nd).mp (c4.trans hl.symm)
                    exact c2 (by simp [this])
                · rcases List.mem_append.mp hx with z | z
                  · rcases t x z with z1 | ⟨m1, c1, c2, c3, c4⟩
                    · cases z1
                    · exact .inr ⟨m1, c1, fun q => c2 (by simp [q]), c3, c4⟩
                  · rw [List.mem_singleton] at z
                    subst z
                    exact .inr ⟨m, Nat.le_of_not_lt hm, fun q => hc (by simpa using q), s m (by simp), hl⟩
      | tup h1 h2 =>
        dsimp only at e
        split at e
        · cases e
        · rename_i ys v2 em
          cases e
          obtain ⟨g, r, kd, s, t⟩ := mapV_ok w (unb_ok w f) _ _ _ vis ys _ h2 nd hf em
          exact ⟨g, .tup h1 r, kd, s, t⟩
      | @new a k o vs xs fc h1 h2 h3 =>
        dsimp only at e
        rw [List.nodup_append] at nd
        obtain ⟨n1, n2, n3⟩ := nd
        split at e
        · cases e
        · rename_i ys v2 em
          cases e
          obtain ⟨g, r, kd, s, t⟩ := mapV_ok w (unb_ok w f) _ _ _ vis ys _ h3 n1 (fun x hx => hf x (by simp [hx])) em
          refine ⟨g ++ [a], .new h1 h2 r, ?_, s, fun x hx => ?_⟩
          · rw [List.nodup_append]
            refine ⟨kd, by simp, fun x hx y hy z => ?_⟩
            rw [List.mem_singleton] at hy
            subst hy
            subst z
            rcases t x hx with z1 | ⟨m1, c1, c2, c3, c4⟩
            · exact n3 x z1 x (by simp) rfl
            · exact hf x (by simp) (List.mem_of_getElem? c4)
          · rcases List.mem_append.mp hx with z | z
            · rcases t x z with z1 | q
              · exact .inl (by simp [z1])
              · exact .inr q
            · exact .inl (by simp at z; simp [z])
      | non => cases e
      | bl _ => cases e
      | int _ => cases e
      | str _ => cases e
      | fn _ => cases e
      | rol _ _ => cases e

/-- addresses of a new thing -/
def Fr (H0 : Hp) (ι : List Addr) (fp : List Addr) : Prop := fp.Nodup ∧ ∀ a ∈ fp, H0 a = none ∧ a ∉ ι
theorem Fr.nil : Fr H0 ι [] := ⟨by simp, by simp⟩
theorem Fr.off {fp : List Addr} (h : Fr H0 ι fp) : ∀ a ∈ fp, a ∉ ι := fun a ha => (h.2 a ha).2
theorem Fr.back {fp : List Addr} (e : Ext ι0 H0 ι H) (h : Fr H ι' fp) : Fr H0 ι' fp := ⟨h.1, fun a ha => ⟨e.back (h.2 a ha).1, (h.2 a ha).2⟩⟩

theorem gc_ok {ι3 : List Addr} {A3 : AH} {H3 : Hp} {n : Nat} {d : Vl} {v : V} {fp : List Addr} (w0 : Wd T ι0 A0 H0) (x : Nx T b ι0 A0 H0 ι3 A3 H3) (hb : b ≤ n) (h0 : A0.length ≤ n) (c : CL n A3) (r : Rp T ι3 H3 v d fp) (f : Fr H0 ι3 fp) :
    ∃ d2 A2 ι2 fq, gc n d A3 = .ok d2 A2 ∧ Nx T b ι0 A0 H0 ι2 A2 H3 ∧ Rp T ι2 H3 v d2 fq ∧ Fr H0 ι2 fq := by
  unfold gc
  split
  · exact ⟨d, A3, ι3, fp, rfl, x, r, f⟩
  · rename_i hn
    split
    · rename_i d2 vis e
      obtain ⟨fq, q1, q2, q3, q4⟩ := unb_ok x.wd 5 d v fp [] d2 vis r f.1 f.off e
      obtain ⟨nw, en, fn⟩ := x.ext.pre
      have hl : ι0.length ≤ n := by rw [w0.len]; exact h0
      have et : ι3.take n = ι0 ++ nw.take (n - ι0.length) := by rw [en, List.take_append, List.take_of_length_le hl]
      refine ⟨d2, A3.take n, ι3.take n, fq, rfl, ⟨x.wd.take c (by omega), ⟨⟨_, et, fun a ha => fn a (List.mem_of_mem_take ha)⟩, x.ext.keep, x.ext.dom⟩, fun m hm z => (x.cl m hm z).pre fun j hj => ?_⟩, q1, q2, fun a ha => ?_⟩
      · rw [List.getElem?_take_of_lt (by omega)]
      · rcases q4 a ha with z | ⟨m, c1, c2, c3, c4⟩
        · exact ⟨(f.2 a z).1, fun q => (f.2 a z).2 (List.mem_of_mem_take q)⟩
        · have hm : ι0.length ≤ m := Nat.le_trans hl c1
          have c5 := c4
          rw [en, List.getElem?_append_right hm] at c5
          refine ⟨fn a (List.mem_of_getElem? c5), fun q => ?_⟩
          obtain ⟨j, hj⟩ := List.mem_iff_getElem?.mp q
          have jl : j < n := by
            have := (List.getElem?_eq_some_iff.mp hj).1
            rw [List.length_take] at this
            omega
          rw [List.getElem?_take_of_lt jl] at hj
          obtain ⟨l1, _⟩ := List.getElem?_eq_some_iff.mp c4
          have : m = j := (List.getElem?_inj l1 x.wd.nd).mp (c4.trans hj.symm)
          omega
    · exact ⟨d, A3, ι3, fp, rfl, x, r, f⟩
end

/-! ### the readings -/
def Res.bind {α β : Type} (r : Res α) (k : α → AH → Res β) : Res β := match r with
  | .ok a A => k a A
  | .exc c A => .exc c A
  | .bad => .bad
inductive SR where
  | nx (s : List (Option Vl)) (A : AH) | rt (d : Vl) (A : AH) | exc (c : Nat) (A : AH) | bad
abbrev CE := Ev → AH → Res Vl
abbrev CT := Ev → AH → Res Bool
abbrev CA := Ev → AH → Res (List Vl)
abbrev CS := Ev → AH → SR
abbrev XE := Nat → Hp → Prop
def Po (T : Tb) (b : Nat) (ι : List Addr) (A : AH) (H : Hp) (r : Res Vl) (Q : VK) (E : XE) : Prop := match r with
  | .ok d A' => ∀ ι' H' v fp, Nx T b ι A H ι' A' H' → Rp T ι' H' v d fp → Fr H ι' fp → Q v H'
  | .exc c A' => ∀ ι' H', Nx T b ι A H ι' A' H' → E c H'
  | .bad => False
def PoA (T : Tb) (b : Nat) (ι : List Addr) (A : AH) (H : Hp) (r : Res (List Vl)) (Q : List V → Hp → Prop) (E : XE) : Prop := match r with
  | .ok ds A' => ∀ ι' H' vs fp, Nx T b ι A H ι' A' H' → Rps T ι' H' vs ds fp → Fr H ι' fp → Q vs H'
  | .exc c A' => ∀ ι' H', Nx T b ι A H ι' A' H' → E c H'
  | .bad => False
def PoT (T : Tb) (b : Nat) (ι : List Addr) (A : AH) (H : Hp) (r : Res Bool) (Q : Bool → Hp → Prop) (E : XE) : Prop := match r with
  | .ok k A' => ∀ ι' H', Nx T b ι A H ι' A' H' → Q k H'
  | .exc c A' => ∀ ι' H', Nx T b ι A H ι' A' H' → E c H'
  | .bad => False
def Er (T : Tb) (ι : List Addr) (H : Hp) (σ : L2.St) (s : List (Option Vl)) : Prop := σ.length = s.length ∧ ∀ (i : Nat) (d : Vl), s[i]? = some (some d) → ∃ v, σ[i]? = some (some v) ∧ Rp T ι H v d []
def PoS (T : Tb) (b : Nat) (ι : List Addr) (A : AH) (H : Hp) (r : SR) (D : Ends) (E : XE) : Prop := match r with
  | .nx s A' => ∀ ι' H' σ', Nx T b ι A H ι' A' H' → Er T ι' H' σ' s → D.nx σ' H'
  | .rt d A' => ∀ ι' H' v fp, Nx T b ι A H ι' A' H' → Rp T ι' H' v d fp → Fr H ι' fp → D.rt v H'
  | .exc c A' => ∀ ι' H', Nx T b ι A H ι' A' H' → E c H'
  | .bad => False
structure At (T : Tb) (σ : L2.St) (H : Hp) (ι : List Addr) (A : AH) (ρ : Ev) : Prop where
  wd : Wd T ι A H
  er : Er T ι H σ ρ.s
  bl : ρ.b ≤ A.length
def tE (T : Tb) (E : XE) (c : CE) : TE := fun σ H Q => ∃ ι A ρ, At T σ H ι A ρ ∧ Po T ρ.b ι A H (c ρ A) Q E
def tT (T : Tb) (E : XE) (c : CT) : TT := fun σ H Q => ∃ ι A ρ, At T σ H ι A ρ ∧ PoT T ρ.b ι A H (c ρ A) Q E
def tA (T : Tb) (E : XE) (c : CA) : TA := fun σ H Q => ∃ ι A ρ, At T σ H ι A ρ ∧ PoA T ρ.b ι A H (c ρ A) Q E
def tS (T : Tb) (E : XE) (c : CS) : TS := fun D σ H => ∃ ι A ρ, At T σ H ι A ρ ∧ PoS T ρ.b ι A H (c ρ A) D E

section
variable {T : Tb} {ι ι' ι1 : List Addr} {H H' H1 : Hp} {A A' A1 : AH} {b : Nat} {σ : L2.St} {ρ : Ev} {E : XE}
theorem Er.mono {s : List (Option Vl)} (e : Ext ι H ι' H') (h : Er T ι H σ s) : Er T ι' H' σ s := ⟨h.1, fun i d hd => by
  obtain ⟨v, h1, h2⟩ := h.2 i d hd
  exact ⟨v, h1, Rp.mono e d v [] h2 (by simp)⟩⟩
theorem Nx.le (w : Wd T ι A H) (x : Nx T b ι A H ι' A' H') : A.length ≤ A'.length := by
  obtain ⟨nw, e, _⟩ := x.ext.pre
  rw [← w.len, ← x.wd.len, e, List.length_append]
  omega
theorem At.next (a : At T σ H ι A ρ) (x : Nx T ρ.b ι A H ι' A' H') : At T σ H' ι' A' ρ := ⟨x.wd, a.er.mono x.ext, Nat.le_trans a.bl (x.le a.wd)⟩
theorem Po.re {r : Res Vl} {Q : VK} (x : Nx T b ι A H ι1 A1 H1) (h : Po T b ι A H r Q E) : Po T b ι1 A1 H1 r Q E := by
  cases r with
  | ok d A' => exact fun ι' H' v fp n r f => h ι' H' v fp (x.trans n) r (f.back x.ext)
  | exc c A' => exact fun ι' H' n => h ι' H' (x.trans n)
  | bad => exact h
theorem PoA.re {r : Res (List Vl)} {Q : List V → Hp → Prop} (x : Nx T b ι A H ι1 A1 H1) (h : PoA T b ι A H r Q E) : PoA T b ι1 A1 H1 r Q E := by
  cases r with
  | ok d A' => exact fun ι' H' v fp n r f => h ι' H' v fp (x.trans n) r (f.back x.ext)
  | exc c A' => exact fun ι' H' n => h ι' H' (x.trans n)
  | bad => exact h
theorem PoT.re {r : Res Bool} {Q : Bool → Hp → Prop} (x : Nx T b ι A H ι1 A1 H1) (h : PoT T b ι A H r Q E) : PoT T b ι1 A1 H1 r Q E := by
  cases r with
  | ok d A' => exact fun ι' H' n => h ι' H' (x.trans n)
  | exc c A' => exact fun ι' H' n => h ι' H' (x.trans n)
  | bad => exact h
theorem PoS.re {r : SR} {D : Ends} (x : Nx T b ι A H ι1 A1 H1) (h : PoS T b ι A H r D E) : PoS T b ι1 A1 H1 r D E := by
  cases r with
  | nx s A' => exact fun ι' H' σ' n => h ι' H' σ' (x.trans n)
  | rt d A' => exact fun ι' H' v fp n r f => h ι' H' v fp (x.trans n) r (f.back x.ext)
  | exc c A' => exact fun ι' H' n => h ι' H' (x.trans n)
  | bad => exact h
end
end Ab

set_option Elab.async false
set_option linter.all false
set_option maxRecDepth 100000
set_option maxHeartbeats 1000000
set_option autoImplicit false
/-! Ab3: code and its rules: names, constants, operators, arguments, tests. -/
namespace Ab
open PySem L2

/-! ### weaker readings -/
theorem PE.imp {X : Cx} {e : Expr} {t t' : TE} (h : PE X e t) (k : ∀ σ H Q, t' σ H Q → t σ H Q) : PE X e t' := ⟨fun pins s σ H Q I q => h.run pins s σ H Q I (k σ H Q q)⟩
theorem PT.imp {X : Cx} {e : Expr} {t t' : TT} (h : PT X e t) (k : ∀ σ H Q, t' σ H Q → t σ H Q) : PT X e t' := ⟨fun pins s σ H Q I q => h.run pins s σ H Q I (k σ H Q q)⟩
theorem PW.imp {X : Cx} {e : Expr} {t t' : TT} (h : PW X e t) (k : ∀ σ H Q, t' σ H Q → t σ H Q) : PW X e t' := ⟨fun wh pins s σ H Q I q => h.run wh pins s σ H Q I (k σ H Q q)⟩
theorem PA.imp {X : Cx} {e : List Expr} {t t' : TA} (h : PA X e t) (k : ∀ σ H Q, t' σ H Q → t σ H Q) : PA X e t' := ⟨fun pos pins s σ H Q I q => h.run pos pins s σ H Q I (k σ H Q q)⟩
theorem PS.imp {X : Cx} {e : Stmt} {t t' : TS} (h : PS X e t) (k : ∀ D σ H, t' D σ H → t D σ H) : PS X e t' := ⟨fun pins s σ H D I q => h.run pins s σ H D I (k D σ H q)⟩
theorem PSs.imp {X : Cx} {e : List Stmt} {t t' : TS} (h : PSs X e t) (k : ∀ D σ H, t' D σ H → t D σ H) : PSs X e t' := ⟨fun pins s σ H D I q => h.run pins s σ H D I (k D σ H q)⟩

/-! ### code -/
def cVar (i : Nat) : CE := fun ρ A => match ρ.s[i]? with
  | some (some d) => .ok d A
  | _ => .bad
def cC (d : Vl) : CE := fun _ A => .ok d A
def cNil : CA := fun _ A => .ok [] A
def cCons (c : CE) (cs : CA) : CA := fun ρ A => (c ρ A).bind fun d A1 => (cs ρ A1).bind fun ds A2 => .ok (d :: ds) A2
abbrev FB := Nat → List Vl → AH → Res Vl
def cF (F : FB) (cs : CA) : CE := fun ρ A => (cs ρ A).bind fun ds A1 => F ρ.b ds A1
def cF1 (F : FB) (c : CE) : CE := fun ρ A => (c ρ A).bind fun d A1 => F ρ.b [d] A1
def cF2 (F : FB) (ca cb : CE) : CE := fun ρ A => (ca ρ A).bind fun x A1 => (cb ρ A1).bind fun y A2 => F ρ.b [x, y] A2
def cTup (cs : CA) : CE := fun ρ A => (cs ρ A).bind fun ds A1 => if ds.length ≤ 100000 then .ok (.tup ds) A1 else .bad
def cLst (cs : CA) : CE := fun ρ A => (cs ρ A).bind fun ds A1 => if ds.length ≤ 100000 then .ok (.new .lst ds) A1 else .bad
def asB (d : Vl) (A : AH) : Res Bool := match d with
  | .bl k => .ok k A
  | _ => .bad
def cTst (c : CE) : CT := fun ρ A => (c ρ A).bind asB
def cAnd (a c : CT) : CT := fun ρ A => (a ρ A).bind fun k A1 => if k = true then c ρ A1 else .ok false A1
def cOr (a c : CT) : CT := fun ρ A => (a ρ A).bind fun k A1 => if k = true then .ok true A1 else c ρ A1
def cNot (a : CT) : CT := fun ρ A => (a ρ A).bind fun k A1 => .ok (!k) A1
def cAndV (a c : CE) : CE := fun ρ A => ((a ρ A).bind asB).bind fun k A1 => if k = true then c ρ A1 else .ok (.bl false) A1
def cOrV (a c : CE) : CE := fun ρ A => ((a ρ A).bind asB).bind fun k A1 => if k = true then .ok (.bl true) A1 else c ρ A1
def cNotV (a : CE) : CE := fun ρ A => ((a ρ A).bind asB).bind fun k A1 => .ok (.bl (!k)) A1
def cIfE (t : CT) (a c : CE) : CE := fun ρ A => (t ρ A).bind fun k A1 => if k = true then a ρ A1 else c ρ A1

/-- what a built-in does to values and heap, by its rule r -/
def SF (T : Tb) (r : List V → Hp → VK → Prop) (F : FB) : Prop := ∀ (b : Nat) (ι : List Addr) (A : AH) (H : Hp) (ι1 : List Addr) (A1 : AH) (H1 : Hp) (vs : List V) (ds : List Vl) (fp : List Addr) (Q : VK) (E : XE),
  Wd T ι A H → b ≤ A.length → Nx T b ι A H ι1 A1 H1 → Rps T ι1 H1 vs ds fp → Fr H ι1 fp → Po T b ι A H (F b ds A1) Q E → r vs H1 Q
def r1 (r : V → Hp → VK → Prop) : List V → Hp → VK → Prop := fun vs H Q => ∃ v, vs = [v] ∧ r v H Q
def r2 (r : R2) : List V → Hp → VK → Prop := fun vs H Q => ∃ v w, vs = [v, w] ∧ r v w H Q

theorem r2_iff {r : R2} {v w : V} {H : Hp} {Q : VK} : r2 r [v, w] H Q ↔ r v w H Q := ⟨fun ⟨_, _, e, h⟩ => by cases e; exact h, fun h => ⟨v, w, rfl, h⟩⟩
theorem r1_iff {r : V → Hp → VK → Prop} {v : V} {H : Hp} {Q : VK} : r1 r [v] H Q ↔ r v H Q := ⟨fun ⟨_, e, h⟩ => by cases e; exact h, fun h => ⟨v, rfl, h⟩⟩
section
variable {T : Tb} {E : XE} {ι ι1 ι2 : List Addr} {H H1 H2 : Hp} {A A1 A2 : AH} {b : Nat} {σ : L2.St} {ρ : Ev}
/-- what is known of new things later -/
theorem Rps.next {vs : List V} {ds : List Vl} {fp : List Addr} (w : Wd T ι1 A1 H1) (x : Nx T b ι1 A1 H1 ι2 A2 H2) (r : Rps T ι1 H1 vs ds fp) (f : Fr H ι1 fp) (hd : ∀ a ∈ fp, ∃ o, H1 a = some o) : Rps T ι2 H2 vs ds fp ∧ Fr H ι2 fp := by
  refine ⟨Rps.mono x.ext ds vs fp r f.off, f.1, fun a ha => ⟨(f.2 a ha).1, fun z => ?_⟩⟩
  obtain ⟨nw, e, hn⟩ := x.ext.pre
  rw [e] at z
  rcases List.mem_append.mp z with z | z
  · exact (f.2 a ha).2 z
  · obtain ⟨o, ho⟩ := hd a ha
    rw [hn a z] at ho; cases ho
mutual
theorem Rp.dom : ∀ (d : Vl) (v : V) (fp : List Addr), Rp T ι H v d fp → ∀ a ∈ fp, ∃ o, H a = some o
  | .non, _, _, h => by cases h; simp
  | .bl b, _, _, h => by cases h; simp
  | .int b, _, _, h => by cases h; simp
  | .str b, _, _, h => by cases h; simp
  | .fn b, _, _, h => by cases h; simp
  | .loc n, _, _, h => by cases h; simp
  | .tup xs, _, _, h => by
    cases h with
    | tup h1 h2 => exact Rps.dom xs _ _ h2
  | .rol xs, _, _, h => by cases h; simp
  | .new k xs, _, _, h => by
    cases h with
    | new h1 h2 h3 =>
      intro a ha
      rcases List.mem_append.mp ha with z | z
      · exact Rps.dom xs _ _ h3 a z
      · rw [List.mem_singleton] at z
        subst z
        exact ⟨_, h1⟩
theorem Rps.dom : ∀ (ds : List Vl) (vs : List V) (fp : List Addr), Rps T ι H vs ds fp → ∀ a ∈ fp, ∃ o, H a = some o
  | [], _, _, h => by cases h; simp
  | d :: ds, _, _, h => by
    cases h with
    | cons h1 h2 =>
      intro a ha
      rcases List.mem_append.mp ha with z | z
      · exact Rp.dom d _ _ h1 a z
      · exact Rps.dom ds _ _ h2 a z
end
theorem Rps.one {v : V} {d : Vl} {fp : List Addr} (h : Rp T ι H v d fp) : Rps T ι H [v] [d] fp := by
  have := Rps.cons h (Rps.nil (T := T) (ι := ι) (H := H))
  rwa [List.append_nil] at this
/-- two stages of new things -/
theorem Fr.app {fp fq : List Addr} (f : Fr H ι2 fp) (g : Fr H1 ι2 fq) (e : Ext ι H ι1 H1) (hd : ∀ a ∈ fp, ∃ o, H1 a = some o) : Fr H ι2 (fp ++ fq) := by
  refine ⟨?_, fun a ha => ?_⟩
  · rw [List.nodup_append]
    refine ⟨f.1, g.1, fun x hx y hy z => ?_⟩
    subst z
    obtain ⟨o, ho⟩ := hd x hx
    rw [(g.2 x hy).1] at ho; cases ho
  · rcases List.mem_append.mp ha with z | z
    · exact f.2 a z
    · exact ⟨e.back (g.2 a z).1, (g.2 a z).2⟩

theorem tE_one {F : FB} {c : CE} {r : List V → Hp → VK → Prop} {Q : VK} (hf : SF T r F) (h : tE T E (cF1 F c) σ H Q) : tE T E c σ H fun v H1 => r [v] H1 Q := by
  obtain ⟨ι, A, ρ, a, p⟩ := h
  refine ⟨ι, A, ρ, a, ?_⟩
  unfold cF1 at p
  cases e : c ρ A with
  | bad => rw [e] at p; exact p
  | exc k A' => rw [e] at p; exact p
  | ok d A' =>
    rw [e] at p
    exact fun ι' H' v fp n rp f => hf ρ.b ι A H ι' A' H' [v] [d] fp Q E a.wd a.bl n (Rps.one rp) f p
theorem tE_two {F : FB} {ca cb : CE} {r : List V → Hp → VK → Prop} {Q : VK} (hf : SF T r F) (h : tE T E (cF2 F ca cb) σ H Q) : tE T E ca σ H fun v H1 => tE T E cb σ H1 fun w H2 => r [v, w] H2 Q := by
  obtain ⟨ι, A, ρ, a, p⟩ := h
  refine ⟨ι, A, ρ, a, ?_⟩
  unfold cF2 at p
  cases e : ca ρ A with
  | bad => rw [e] at p; exact p
  | exc k A' => rw [e] at p; exact p
  | ok d A' =>
    rw [e] at p
    intro ι1 H1 v fp n rp f
    refine ⟨ι1, A', ρ, a.next n, ?_⟩
    have p : Po T ρ.b ι A H ((cb ρ A').bind fun y A2 => F ρ.b [d, y] A2) Q E := p
    cases e2 : cb ρ A' with
    | bad => rw [e2] at p; exact p
    | exc k A2 => rw [e2] at p; exact fun ι' H' m => p ι' H' (n.trans m)
    | ok d2 A2 =>
      rw [e2] at p
      intro ι2 H2 w fq m rq g
      have hd := Rp.dom d v fp rp
      obtain ⟨rp2, f2⟩ := Rps.next (H := H) n.wd m (Rps.one rp) f hd
      have fr := f2.app g n.ext hd
      have rr : Rps T ι2 H2 [v, w] [d, d2] (fp ++ fq) := by
        cases rp2 with
        | cons q1 q2 =>
          cases q2
          simp only [List.append_nil]
          have := Rps.cons q1 (Rps.one rq)
          exact this
      exact hf ρ.b ι A H ι2 A2 H2 [v, w] [d, d2] _ Q E a.wd a.bl (n.trans m) rr fr p
theorem tA_cons {c : CE} {cs : CA} {Q : List V → Hp → Prop} (h : tA T E (cCons c cs) σ H Q) : tE T E c σ H fun v H1 => tA T E cs σ H1 fun vs H2 => Q (v :: vs) H2 := by
  obtain ⟨ι, A, ρ, a, p⟩ := h
  refine ⟨ι, A, ρ, a, ?_⟩
  unfold cCons at p
  cases e : c ρ A with
  | bad => rw [e] at p; exact p
  | exc k A' => rw [e] at p; exact p
  | ok d A' =>
    rw [e] at p
    intro ι1 H1 v fp n rp f
    refine ⟨ι1, A', ρ, a.next n, ?_⟩
    have p : PoA T ρ.b ι A H ((cs ρ A').bind fun ds A2 => .ok (d :: ds) A2) Q E := p
    cases e2 : cs ρ A' with
    | bad => rw [e2] at p; exact p
    | exc k A2 => rw [e2] at p; exact fun ι' H' m => p ι' H' (n.trans m)
    | ok ds A2 =>
      rw [e2] at p
      intro ι2 H2 ws fq m rq g
      have hd := Rp.dom d v fp rp
      obtain ⟨rp2, f2⟩ := Rps.next (H := H) n.wd m (Rps.one rp) f hd
      have fr := f2.app g n.ext hd
      have rr : Rps T ι2 H2 (v :: ws) (d :: ds) (fp ++ fq) := by
        cases rp2 with
        | cons q1 q2 =>
          cases q2
          simp only [List.append_nil]
          exact Rps.cons q1 rq
      exact p ι2 H2 (v :: ws) _ (n.trans m) rr fr
theorem tA_F {F : FB} {cs : CA} {r : List V → Hp → VK → Prop} {Q : VK} (hf : SF T r F) (h : tE T E (cF F cs) σ H Q) : tA T E cs σ H fun vs H1 => r vs H1 Q := by
  obtain ⟨ι, A, ρ, a, p⟩ := h
  refine ⟨ι, A, ρ, a, ?_⟩
  unfold cF at p
  cases e : cs ρ A with
  | bad => rw [e] at p; exact p
  | exc k A' => rw [e] at p; exact p
  | ok d A' =>
    rw [e] at p
    exact fun ι' H' v fp n rp f => hf ρ.b ι A H ι' A' H' v d fp Q E a.wd a.bl n rp f p
theorem tE_test {c : CE} {Q : Bool → Hp → Prop} (h : tT T E (cTst c) σ H Q) : tE T E c σ H fun v H1 => ∃ k, v = .bl k ∧ Q k H1 := by
  obtain ⟨ι, A, ρ, a, p⟩ := h
  refine ⟨ι, A, ρ, a, ?_⟩
  unfold cTst at p
  cases e : c ρ A with
  | bad => rw [e] at p; exact p
  | exc k A' => rw [e] at p; exact p
  | ok d A' =>
    rw [e] at p
    cases d with
    | bl k =>
      intro ι1 H1 v fp n rp f
      cases rp
      exact ⟨k, rfl, p ι1 H1 n⟩
    | _ => exact False.elim p
end

section
variable {X : Cx} {T : Tb} {E : XE} {a b : Expr} {pos : Pos} {ca cb : CE} {F : FB} {es : List Expr} {cs : CA}
theorem ge_var {i : Nat} {x : Str} (h : PE X (.Name x pos) (tVar i)) : PE X (.Name x pos) (tE T E (cVar i)) := PE.imp h fun σ H Q q => by
  obtain ⟨ι, A, ρ, a, p⟩ := q
  unfold cVar at p
  split at p
  · rename_i d e
    obtain ⟨v, h1, h2⟩ := a.er.2 i d e
    exact ⟨v, h1, p ι H v [] (.refl a.wd) h2 .nil⟩
  · exact p.elim
theorem ge_c {v : V} {d : Vl} {e : Expr} (h : PE X e (tC v)) (r : ∀ ι H, Rp T ι H v d []) : PE X e (tE T E (cC d)) := PE.imp h fun σ H Q q => by
  obtain ⟨ι, A, ρ, a, p⟩ := q
  exact p ι H v [] (.refl a.wd) (r ι H) .nil
theorem ge_int {i j} : PE X (.Constant (.int i) j pos) (tE T E (cC (.int i))) := ge_c pe_int fun _ _ => .int i
theorem ge_bl {i j} : PE X (.Constant (.bool i) j pos) (tE T E (cC (.bl i))) := ge_c pe_bl fun _ _ => .bl i
theorem ge_non {j} : PE X (.Constant .none j pos) (tE T E (cC .non)) := ge_c pe_non fun _ _ => .non
theorem ge_str {i j} : PE X (.Constant (.str i) j pos) (tE T E (cC (.str i))) := ge_c pe_str fun _ _ => .str i
theorem ga_nil : PA X [] (tA T E cNil) := PA.imp pa_nil fun σ H Q q => by
  obtain ⟨ι, A, ρ, a, p⟩ := q
  exact p ι H [] [] (.refl a.wd) .nil .nil
theorem ge_op {op : Operator} {r : R2} (ho : OpR X (binaryOp op) r) (hf : SF T (r2 r) F) (ha : PE X a (tE T E ca)) (hb : PE X b (tE T E cb)) : PE X (.BinOp a op b pos) (tE T E (cF2 F ca cb)) :=
  PE.imp (pe_op ho ha hb) fun σ H Q q => by
    have z := tE_two hf q
    simp only [r2_iff] at z
    exact z
theorem ge_un {op : UnaryOp} {r : V → Hp → VK → Prop} (ho : UnR X (unaryOp op) r) (hf : SF T (r1 r) F) (ha : PE X a (tE T E ca)) : PE X (.UnaryOp op a pos) (tE T E (cF1 F ca)) :=
  PE.imp (pe_un ho ha) fun σ H Q q => by
    have z := tE_one hf q
    simp only [r1_iff] at z
    exact z
theorem ge_cmp {op : CmpOp} {r : R2} (ho : OpR X (compareOp op) r) (hf : SF T (r2 r) F) (ha : PE X a (tE T E ca)) (hb : PE X b (tE T E cb)) (hm : behindInMarks op b = false) : PE X (.Compare a [op] [b] pos) (tE T E (cF2 F ca cb)) :=
  PE.imp (pe_cmpR ho ha hb hm) fun σ H Q q => by
    have z := tE_two hf q
    simp only [r2_iff] at z
    exact z
theorem gt_cmp {op : CmpOp} {r : R2} (ho : OpR X (compareOp op) r) (hf : SF T (r2 r) F) (ha : PE X a (tE T E ca)) (hb : PE X b (tE T E cb)) (hm : behindInMarks op b = false) : PT X (.Compare a [op] [b] pos) (tT T E (cTst (cF2 F ca cb))) :=
  PT.imp (pt_cmpR ho ha hb hm) fun σ H Q q => by
    have z := tE_two hf (tE_test q)
    simp only [r2_iff] at z
    exact z
theorem ge_ix {r : R2} (ho : IxR X r) (hf : SF T (r2 r) F) (ha : PE X a (tE T E ca)) (hb : PE X b (tE T E cb)) (hs : PlainIx b) : PE X (.Subscript a b pos) (tE T E (cF2 F ca cb)) :=
  PE.imp (pe_ix ho ha hb hs) fun σ H Q q => by
    have z := tE_two hf q
    simp only [r2_iff] at z
    exact z
theorem gt_val {c : CE} (h : PE X a (tE T E c)) (he : ∀ whole, isTrue a X.env whole = (do let v ← whole; standAt a.pos; holding [v] (truthy v)) := by intro _; rfl) : PT X a (tT T E (cTst c)) :=
  PT.imp (pt_val h he) fun σ H Q q => tE_test q
/-! tests -/
theorem tT_bind {t : CT} {k : Ev → Bool → AH → Res Bool} {σ : L2.St} {H : Hp} {Q R : Bool → Hp → Prop} (h : tT T E (fun ρ A => (t ρ A).bind (k ρ)) σ H Q)
    (hk : ∀ c H1, (∃ ι A ρ, At T σ H1 ι A ρ ∧ PoT T ρ.b ι A H1 (k ρ c A) Q E) → R c H1) : tT T E t σ H R := by
  obtain ⟨ι, A, ρ, a, p⟩ := h
  refine ⟨ι, A, ρ, a, ?_⟩
  dsimp only at p
  cases e : t ρ A with
  | bad => rw [e] at p; exact p
  | exc k A' => rw [e] at p; exact p
  | ok c A' =>
    rw [e] at p
    exact fun ι1 H1 n => hk c H1 ⟨ι1, A', ρ, a.next n, PoT.re n p⟩
theorem gw_and1 {t : CT} (ha : PT X a (tT T E t)) : PW X (.BoolOp .And [a] pos) (tT T E t) := pw_and1 ha
theorem gw_or1 {t : CT} (ha : PT X a (tT T E t)) : PW X (.BoolOp .Or [a] pos) (tT T E t) := pw_or1 ha
theorem gw_and {t u : CT} {rest : List Expr} (ha : PT X a (tT T E t)) (hb : PW X (.BoolOp .And (b :: rest) pos) (tT T E u)) : PW X (.BoolOp .And (a :: b :: rest) pos) (tT T E (cAnd t u)) :=
  PW.imp (pw_and ha hb) fun σ H Q q => tT_bind q fun c H1 ⟨ι, A, ρ, a, p⟩ => by
    cases c with
    | true => simp only [if_true] at p ⊢; exact ⟨ι, A, ρ, a, p⟩
    | false =>
      rw [if_neg Bool.false_ne_true]
      exact p ι H1 (.refl a.wd)
theorem gw_or {t u : CT} {rest : List Expr} (ha : PT X a (tT T E t)) (hb : PW X (.BoolOp .Or (b :: rest) pos) (tT T E u)) : PW X (.BoolOp .Or (a :: b :: rest) pos) (tT T E (cOr t u)) :=
  PW.imp (pw_or ha hb) fun σ H Q q => tT_bind q fun c H1 ⟨ι, A, ρ, a, p⟩ => by
    cases c with
    | true => simp only [if_true] at p ⊢; exact p ι H1 (.refl a.wd)
    | false =>
      rw [if_neg Bool.false_ne_true] at p ⊢
      exact ⟨ι, A, ρ, a, p⟩
theorem gt_not {t : CT} (ha : PT X a (tT T E t)) : PT X (.UnaryOp .Not a pos) (tT T E (cNot t)) :=
  PT.imp (pt_not ha) fun σ H Q q => tT_bind q fun c H1 ⟨ι, A, ρ, a, p⟩ => p ι H1 (.refl a.wd)
/-! values -/
theorem tE_bindB {c : CE} {k : Ev → Bool → AH → Res Vl} {σ : L2.St} {H : Hp} {Q : VK} {R : Bool → Hp → Prop} (h : tE T E (fun ρ A => ((c ρ A).bind asB).bind (k ρ)) σ H Q)
    (hk : ∀ c H1, (∃ ι A ρ, At T σ H1 ι A ρ ∧ Po T ρ.b ι A H1 (k ρ c A) Q E) → R c H1) : tE T E c σ H fun v H1 => ∃ c, v = .bl c ∧ R c H1 := by
  obtain ⟨ι, A, ρ, a, p⟩ := h
  refine ⟨ι, A, ρ, a, ?_⟩
  dsimp only at p
  cases e : c ρ A with
  | bad => rw [e] at p; exact p
  | exc k A' => rw [e] at p; exact p
  | ok d A' =>
    rw [e] at p
    cases d with
    | bl q =>
      intro ι1 H1 v fp n rp f
      cases rp
      exact ⟨q, rfl, hk q H1 ⟨ι1, A', ρ, a.next n, Po.re n p⟩⟩
    | _ => exact False.elim p
theorem ge_and {rest : List Expr} (ha : PE X a (tE T E ca)) (hb : PE X (.BoolOp .And (b :: rest) pos) (tE T E cb)) : PE X (.BoolOp .And (a :: b :: rest) pos) (tE T E (cAndV ca cb)) :=
  PE.imp (pe_and ha hb) fun σ H Q q => tE_bindB q fun c H1 ⟨ι, A, ρ, a, p⟩ => by
    cases c with
    | true => simp only [if_true] at p ⊢; exact ⟨ι, A, ρ, a, p⟩
    | false =>
      rw [if_neg Bool.false_ne_true]
      exact p ι H1 _ [] (.refl a.wd) (.bl false) .nil
theorem ge_or {rest : List Expr} (ha : PE X a (tE T E ca)) (hb : PE X (.BoolOp .Or (b :: rest) pos) (tE T E cb)) : PE X (.BoolOp .Or (a :: b :: rest) pos) (tE T E (cOrV ca cb)) :=
  PE.imp (pe_or ha hb) fun σ H Q q => tE_bindB q fun c H1 ⟨ι, A, ρ, a, p⟩ => by
    cases c with
    | true => simp only [if_true] at p ⊢; exact p ι H1 _ [] (.refl a.wd) (.bl true) .nil
    | false =>
      rw [if_neg Bool.false_ne_true] at p ⊢
      exact ⟨ι, A, ρ, a, p⟩
theorem ge_one {op} (h : PE X a (tE T E ca)) : PE X (.BoolOp op [a] pos) (tE T E ca) := pe_one h
theorem ge_not (ha : PE X a (tE T E ca)) : PE X (.UnaryOp .Not a pos) (tE T E (cNotV ca)) :=
  PE.imp (pe_not ha) fun σ H Q q => tE_bindB q fun c H1 ⟨ι, A, ρ, a, p⟩ => p ι H1 _ [] (.refl a.wd) (.bl (!c)) .nil
theorem ge_if {c : Expr} {t : CT} (hc : PT X c (tT T E t)) (ha : PE X a (tE T E ca)) (hb : PE X b (tE T E cb)) : PE X (.IfExp c a b pos) (tE T E (cIfE t ca cb)) :=
  PE.imp (pe_ifExp hc ha hb) fun σ H Q q => by
    obtain ⟨ι, A, ρ, a, p⟩ := q
    refine ⟨ι, A, ρ, a, ?_⟩
    unfold cIfE at p
    cases e : t ρ A with
    | bad => rw [e] at p; exact p
    | exc k A' => rw [e] at p; exact p
    | ok c A' =>
      rw [e] at p
      intro ι1 H1 n
      have p : Po T ρ.b ι1 A' H1 (if c = true then ca ρ A' else cb ρ A') Q E := Po.re n p
      cases c with
      | true => simp only [if_true] at p ⊢; exact ⟨ι1, A', ρ, a.next n, p⟩
      | false =>
        rw [if_neg Bool.false_ne_true] at p ⊢
        exact ⟨ι1, A', ρ, a.next n, p⟩
theorem ga_cons (ha : PE X a (tE T E ca)) (hr : PA X es (tA T E cs)) (hs : starEach (a :: es) X.env = (false, eval a X.env) :: starEach es X.env := by rfl) : PA X (a :: es) (tA T E (cCons ca cs)) :=
  PA.imp (pa_cons ha hr hs) fun σ H Q q => tA_cons q
theorem new_ok {b : Nat} {ι ι1 : List Addr} {A A1 : AH} {H H1 : Hp} {vs : List V} {ds : List Vl} {fp : List Addr} {p : Addr} {Q : VK} (n : Nx T b ι A H ι1 A1 H1) (r : Rps T ι1 H1 vs ds fp) (f : Fr H ι1 fp) (h : H1 p = none)
    (q : Po T b ι A H (.ok (.new .lst ds) A1) Q E) : Q (.ref p) (upd H1 p (.lst vs)) := by
  have e : Ext ι1 H1 ι1 (upd H1 p (.lst vs)) := Ext.refl.upd h
  refine q ι1 _ _ (fp ++ [p]) (n.upd h) (.new upd_same rfl (Rps.mono e ds vs fp r f.off)) ⟨?_, fun a ha => ?_⟩
  · rw [List.nodup_append]
    refine ⟨f.1, by simp, fun x hx y hy z => ?_⟩
    rw [List.mem_singleton] at hy
    subst hy; subst z
    obtain ⟨o, ho⟩ := Rps.dom ds vs fp r x hx
    rw [h] at ho; cases ho
  · rcases List.mem_append.mp ha with z | z
    · exact f.2 a z
    · rw [List.mem_singleton] at z
      subst z
      exact ⟨n.ext.back h, n.wd.fresh h⟩
theorem tup_ok {b : Nat} {ι ι1 : List Addr} {A A1 : AH} {H H1 : Hp} {vs : List V} {ds : List Vl} {fp : List Addr} {p : Addr} {Q : VK} (n : Nx T b ι A H ι1 A1 H1) (r : Rps T ι1 H1 vs ds fp) (f : Fr H ι1 fp) (h : H1 p = none)
    (q : Po T b ι A H (.ok (.tup ds) A1) Q E) : Q (.ref p) (upd H1 p (.tup vs)) := by
  have e : Ext ι1 H1 ι1 (upd H1 p (.tup vs)) := Ext.refl.upd h
  exact q ι1 _ _ fp (n.upd h) (.tup (.inl (.inl upd_same)) (Rps.mono e ds vs fp r f.off)) f
theorem size_ok {n : Nat} (h : n ≤ 100000) : n ≤ sizeLine := Nat.le_trans h (by decide)
theorem size_lt {n : Nat} (h : n < 100000) : n < sizeLine := Nat.lt_of_lt_of_le h (by decide)
theorem Rps.len {ι : List Addr} {H : Hp} : ∀ {ds : List Vl} {vs : List V} {fp : List Addr}, Rps T ι H vs ds fp → vs.length = ds.length
  | [], _, _, h => by cases h; rfl
  | d :: ds, _, _, h => by
    cases h with
    | cons h1 h2 => simp [Rps.len h2]
theorem ge_tup {x1} (h : PA X es (tA T E cs)) : PE X (.Tuple es x1 pos) (tE T E (cTup cs)) := PE.imp (pe_tup h) fun σ H Q q => by
  obtain ⟨ι, A, ρ, a, p⟩ := q
  refine ⟨ι, A, ρ, a, ?_⟩
  unfold cTup at p
  cases e : cs ρ A with
  | bad => rw [e] at p; exact p
  | exc k A' => rw [e] at p; exact p
  | ok ds A' =>
    rw [e] at p
    intro ι1 H1 vs fp n r f
    have p : Po T ρ.b ι A H (if ds.length ≤ 100000 then .ok (.tup ds) A' else .bad) Q E := p
    split at p
    · rename_i hl
      exact ⟨by rw [r.len]; exact size_ok hl, fun q hq => tup_ok n r f hq p⟩
    · exact p.elim
theorem ge_lst (h : PA X es (tA T E cs)) : PE X (.List es pos) (tE T E (cLst cs)) := PE.imp (pe_lst h) fun σ H Q q => by
  obtain ⟨ι, A, ρ, a, p⟩ := q
  refine ⟨ι, A, ρ, a, ?_⟩
  unfold cLst at p
  cases e : cs ρ A with
  | bad => rw [e] at p; exact p
  | exc k A' => rw [e] at p; exact p
  | ok ds A' =>
    rw [e] at p
    intro ι1 H1 vs fp n r f
    have p : Po T ρ.b ι A H (if ds.length ≤ 100000 then .ok (.new .lst ds) A' else .bad) Q E := p
    split at p
    · rename_i hl
      exact ⟨by rw [r.len]; exact size_ok hl, fun q hq => new_ok n r f hq p⟩
    · exact p.elim
theorem ge_callB {id : String} {x : Str} {p : Pos} {r : List V → Hp → VK → Prop} (hc : CallR X (.builtin id) r) (hf : SF T r F) (hg : Gl X x) (hm : X.mg x = none) (hv : bootBuiltins x = some (.builtin id)) (ha : PA X (a :: es) (tA T E cs)) (hn : x ≠ "__name__" := by decide) (hdb : (x == ("__debug__" : Str)) = false := by decide)
    (he : starEach (a :: es) X.env = (false, eval a X.env) :: starEach es X.env := by rfl) (hpl : (backTo pos (starEach es X.env)).any (·.1) = false := by rfl) : PE X (.Call (.Name x p) (a :: es) [] pos) (tE T E (cF F cs)) :=
  PE.imp (pe_callB hc hg hm hv ha hn hdb he hpl) fun σ H Q q => tA_F hf q
theorem ge_callTy {Ty : String} {x : Str} {p : Pos} {r : List V → Hp → VK → Prop} (hc : CallR X (.type Ty) r) (hf : SF T r F) (hg : Gl X x) (hm : X.mg x = none) (hv : bootBuiltins x = some (.type Ty)) (ha : PA X (a :: es) (tA T E cs)) (hn : x ≠ "__name__" := by decide) (hdb : (x == ("__debug__" : Str)) = false := by decide)
    (he : starEach (a :: es) X.env = (false, eval a X.env) :: starEach es X.env := by rfl) (hpl : (backTo pos (starEach es X.env)).any (·.1) = false := by rfl) : PE X (.Call (.Name x p) (a :: es) [] pos) (tE T E (cF F cs)) :=
  PE.imp (pe_callTy hc hg hm hv ha hn hdb he hpl) fun σ H Q q => tA_F hf q
end
end Ab

set_option Elab.async false
set_option linter.all false
set_option maxRecDepth 100000
set_option maxHeartbeats 1000000
set_option autoImplicit false
/-! Ab4: what built-ins do. -/
namespace Ab
open PySem PySem.Spec PyProof.Rows L2

def mutL (A : AH) : Vl → Option (List Vl)
  | .new .lst xs => some xs
  | .loc n => match A[n]? with
    | some (.lst, xs) => some xs
    | _ => none
  | _ => none
def seqL (A : AH) : Vl → Option (List Vl)
  | .new .lst xs => some xs
  | .rol xs => some xs
  | .loc n => match A[n]? with
    | some (.lst, xs) => some xs
    | _ => none
  | _ => none
def seqA (A : AH) : Vl → Option (List Vl)
  | .tup xs => some xs
  | d => seqL A d
section
variable {T : Tb} {ι : List Addr} {H : Hp} {A : AH}
theorem Rps.one_inv {vs : List V} {x : Vl} {fp : List Addr} (h : Rps T ι H vs [x] fp) : ∃ v, vs = [v] ∧ Rp T ι H v x fp := by
  cases h with
  | cons h1 h2 => cases h2; exact ⟨_, rfl, by rw [List.append_nil]; exact h1⟩
theorem Rps.two_inv {vs : List V} {x y : Vl} {fp : List Addr} (h : Rps T ι H vs [x, y] fp) : ∃ v w f g, vs = [v, w] ∧ fp = f ++ g ∧ Rp T ι H v x f ∧ Rp T ι H w y g := by
  cases h with
  | cons h1 h2 => obtain ⟨w, rfl, h3⟩ := h2.one_inv; exact ⟨_, _, _, _, rfl, rfl, h1, h3⟩
theorem Fr.sub {H0 : Hp} {fp fq : List Addr} (s : fq.Sublist fp) (f : Fr H0 ι fp) : Fr H0 ι fq := ⟨f.1.sublist s, fun a ha => f.2 a (s.mem ha)⟩
theorem mutL_ok {v : V} {d : Vl} {fp : List Addr} {xs : List Vl} (w : Wd T ι A H) (r : Rp T ι H v d fp) (e : mutL A d = some xs) : ∃ p vs fq, v = .ref p ∧ H p = some (.lst vs) ∧ Rps T ι H vs xs fq ∧ fq.Sublist fp := by
  cases d with
  | new k ys =>
    cases k with
    | lst =>
      cases r with
      | new h1 h2 h3 =>
        cases e
        rw [show _ = HO.lst _ from h2] at h1
        exact ⟨_, _, _, rfl, h1, h3, List.sublist_append_left _ _⟩
    | _ => cases e
  | loc n =>
    cases r with
    | loc hl =>
      simp only [mutL] at e
      split at e
      · rename_i ys ha
        cases e
        obtain ⟨o, vs, q1, q2, q3⟩ := w.cel _ _ _ _ ha hl
        rw [show o = HO.lst vs from q2] at q1
        exact ⟨_, vs, [], rfl, q1, q3, List.nil_sublist _⟩
      · cases e
  | _ => cases e
theorem seqL_ok {v : V} {d : Vl} {fp : List Addr} {xs : List Vl} (w : Wd T ι A H) (r : Rp T ι H v d fp) (e : seqL A d = some xs) : ∃ p vs fq, v = .ref p ∧ SqL T.K H p vs ∧ Rps T ι H vs xs fq ∧ fq.Sublist fp := by
  cases d with
  | rol ys =>
    cases e
    cases r with
    | rol h1 h2 => exact ⟨_, _, [], rfl, h1.sq, h2, List.Sublist.refl _⟩
  | new k ys =>
    cases k with
    | lst =>
      obtain ⟨p, vs, fq, h1, h2, h3, h4⟩ := mutL_ok w r (show mutL A (.new .lst ys) = some xs from e)
      exact ⟨p, vs, fq, h1, .inl (.inl h2), h3, h4⟩
    | _ => cases e
  | loc n =>
    obtain ⟨p, vs, fq, h1, h2, h3, h4⟩ := mutL_ok w r (show mutL A (.loc n) = some xs from e)
    exact ⟨p, vs, fq, h1, .inl (.inl h2), h3, h4⟩
  | _ => cases e
theorem seqA_ok {v : V} {d : Vl} {fp : List Addr} {xs : List Vl} (w : Wd T ι A H) (r : Rp T ι H v d fp) (e : seqA A d = some xs) : ∃ p vs fq, v = .ref p ∧ (SqL T.K H p vs ∨ SqT T.K H p vs) ∧ Rps T ι H vs xs fq ∧ fq.Sublist fp := by
  cases d with
  | tup ys =>
    cases e
    cases r with
    | tup h1 h2 => exact ⟨_, _, _, rfl, .inr h1, h2, List.Sublist.refl _⟩
  | _ =>
    obtain ⟨p, vs, fq, h1, h2, h3, h4⟩ := seqL_ok w r (show seqL A _ = some xs from e)
    exact ⟨p, vs, fq, h1, .inl h2, h3, h4⟩
theorem Rps.append : ∀ {xs ys : List Vl} {vs us : List V} {fp fq : List Addr}, Rps T ι H vs xs fp → Rps T ι H us ys fq → Rps T ι H (vs ++ us) (xs ++ ys) (fp ++ fq)
  | [], _, _, _, _, _, h, k => by cases h; exact k
  | x :: xs, ys, _, us, _, fq, h, k => by
    cases h with
    | cons h1 h2 =>
      rw [List.append_assoc]
      exact .cons h1 (Rps.append h2 k)
theorem Rps.drop : ∀ (n : Nat) {xs : List Vl} {vs : List V} {fp : List Addr}, Rps T ι H vs xs fp → ∃ fq, Rps T ι H (vs.drop n) (xs.drop n) fq ∧ fq.Sublist fp
  | 0, _, _, _, h => ⟨_, h, List.Sublist.refl _⟩
  | n + 1, [], _, _, h => by cases h; exact ⟨[], .nil, List.Sublist.refl _⟩
  | n + 1, x :: xs, _, _, h => by
    cases h with
    | cons h1 h2 =>
      obtain ⟨fq, q1, q2⟩ := Rps.drop n h2
      exact ⟨fq, q1, q2.trans (List.sublist_append_right _ _)⟩
theorem Rps.takeN : ∀ (n : Nat) {xs : List Vl} {vs : List V} {fp : List Addr}, Rps T ι H vs xs fp → ∃ fq, Rps T ι H (vs.take n) (xs.take n) fq ∧ fq.Sublist fp
  | 0, _, _, _, h => ⟨[], .nil, List.nil_sublist _⟩
  | n + 1, [], _, _, h => by cases h; exact ⟨[], .nil, List.Sublist.refl _⟩
  | n + 1, x :: xs, _, _, h => by
    cases h with
    | cons h1 h2 =>
      obtain ⟨fq, q1, q2⟩ := Rps.takeN n h2
      exact ⟨_, .cons h1 q1, List.Sublist.append (List.Sublist.refl _) q2⟩
theorem Rps.get : ∀ {i : Nat} {xs : List Vl} {vs : List V} {fp : List Addr} {d : Vl}, Rps T ι H vs xs fp → xs[i]? = some d → ∃ v fq, vs[i]? = some v ∧ Rp T ι H v d fq ∧ fq.Sublist fp
  | _, [], _, _, _, h, e => by simp at e
  | 0, x :: xs, _, _, _, h, e => by
    cases h with
    | cons h1 h2 => simp at e; subst e; exact ⟨_, _, rfl, h1, List.sublist_append_left _ _⟩
  | i + 1, x :: xs, _, _, _, h, e => by
    cases h with
    | cons h1 h2 =>
      obtain ⟨v, fq, q1, q2, q3⟩ := Rps.get (i := i) h2 (by simpa using e)
      exact ⟨v, fq, by simpa using q1, q2, q3.trans (List.sublist_append_right _ _)⟩
end

/-! ### whole numbers -/
def fI (C : Int → Int → Bool) (g : Int → Int → Vl) : FB := fun _ ds A => match ds with
  | [.int i, .int j] => if C i j = true then .ok (g i j) A else .bad
  | _ => .bad
theorem sf_I {T : Tb} {C : Int → Int → Bool} {C' : Int → Int → Prop} {g : Int → Int → Vl} {g' : Int → Int → V} (hc : ∀ i j, C i j = true → C' i j) (hg : ∀ ι H i j, Rp T ι H (g' i j) (g i j) []) : SF T (r2 (rI C' g')) (fI C g) := by
  intro b ι A H ι1 A1 H1 vs ds fp Q E w hb n r f p
  unfold fI at p
  split at p
  · rename_i i j
    obtain ⟨v, w, f1, f2, rfl, rfl, q1, q2⟩ := r.two_inv
    cases q1; cases q2
    split at p
    · rename_i h
      exact ⟨_, _, rfl, i, j, rfl, rfl, hc i j h, p ι1 H1 _ [] n (hg ι1 H1 i j) .nil⟩
    · exact p.elim
  · exact p.elim
def fI0 (g : Int → Int → Vl) : FB := fun _ ds A => match ds with
  | [.int i, .int j] => .ok (g i j) A
  | _ => .bad
theorem sf_I0 {T : Tb} {g : Int → Int → Vl} {g' : Int → Int → V} (hg : ∀ ι H i j, Rp T ι H (g' i j) (g i j) []) : SF T (r2 (rI0 g')) (fI0 g) := by
  intro b ι A H ι1 A1 H1 vs ds fp Q E w hb n r f p
  unfold fI0 at p
  split at p
  · rename_i i j
    obtain ⟨v, w, f1, f2, rfl, rfl, q1, q2⟩ := r.two_inv
    cases q1; cases q2
    exact ⟨_, _, rfl, i, j, rfl, rfl, p ι1 H1 _ [] n (hg ι1 H1 i j) .nil⟩
  · exact p.elim
def fSub : FB := fI0 fun i j => .int (i - j)
theorem sf_sub {T : Tb} : SF T (r2 (rI0 fun i j => .int (i - j))) fSub := sf_I0 fun _ _ i j => .int _
def fLt : FB := fI0 fun i j => .bl (decide (i < j))
theorem sf_lt {T : Tb} : SF T (r2 (rI0 fun i j => .bl (decide (i < j)))) fLt := sf_I0 fun _ _ i j => .bl _
def fLe : FB := fI0 fun i j => .bl (decide (i ≤ j))
theorem sf_le {T : Tb} : SF T (r2 (rI0 fun i j => .bl (decide (i ≤ j)))) fLe := sf_I0 fun _ _ i j => .bl _
def fGt : FB := fI0 fun i j => .bl (decide (j < i))
theorem sf_gt {T : Tb} : SF T (r2 (rI0 fun i j => .bl (decide (j < i)))) fGt := sf_I0 fun _ _ i j => .bl _
def fGe : FB := fI0 fun i j => .bl (decide (j ≤ i))
theorem sf_ge {T : Tb} : SF T (r2 (rI0 fun i j => .bl (decide (j ≤ i)))) fGe := sf_I0 fun _ _ i j => .bl _
def fMod : FB := fI (fun _ j => decide (0 < j)) fun i j => .int (i % j)
theorem sf_mod {T : Tb} : SF T (r2 (rI (fun _ j => 0 < j) fun i j => .int (i % j))) fMod := sf_I (fun _ _ h => of_decide_eq_true h) fun _ _ i j => .int _
def fDiv : FB := fI (fun _ j => decide (0 < j ∧ j < 1073741824)) fun i j => .int (i / j)
theorem sf_div {T : Tb} : SF T (r2 (rI CDiv fun i j => .int (i / j))) fDiv := sf_I (fun i j h => by have z := of_decide_eq_true h; exact z) fun _ _ i j => .int _
def fPow : FB := fI (fun i j => decide (0 ≤ j ∧ j ≤ 1000000 ∧ i.natAbs < 2 ^ 64)) fun i j => .int (i ^ j.toNat)
theorem sf_pow {T : Tb} : SF T (r2 (rI CPow fun i j => .int (i ^ j.toNat))) fPow := sf_I (fun i j h => by have z := of_decide_eq_true h; exact z) fun _ _ i j => .int _
/-- two factors of together less than a hundred million bits -/
def CMulB (i j : Int) : Prop := i.natAbs.log2 + j.natAbs.log2 < 100000000
theorem CMulB.ok {i j : Int} (h : CMulB i j) : IntMulOk i j := by
  have b : ∀ x : Int, Builtin.Int.intBits x ≤ x.natAbs.log2 + 1 := fun x => by
    unfold Builtin.Int.intBits
    split <;> omega
  have h1 := b i
  have h2 := b j
  have h3 : i.natAbs.log2 + j.natAbs.log2 < 100000000 := h
  have e : bitsLine = 134217728 := by decide
  unfold IntMulOk
  intro z
  rw [Bool.and_eq_true] at z
  have z2 := z.2
  unfold Builtin.Int.intTooBig at z2
  have z3 := of_decide_eq_true z2
  rw [e] at z3
  omega
theorem op_mulB {X : Cx} : OpR X (binaryOp .Mult) (rI CMulB fun i j => .int (i * j)) := opI fun _ _ _ _ _ _ _ hc q => PyProof.Rows.mul_int q hc.ok

/-! ### sums of either kind -/
theorem op_or {X : Cx} {f : Value → Value → Sem Value} {r r' : R2} (h : OpR X f r) (h' : OpR X f r') : OpR X f (fun x y H Q => r x y H Q ∨ r' x y H Q) := by
  intro pins s σ H x y v u Q I rx ry q
  rcases q with q | q
  · exact h pins s σ H x y v u Q I rx ry q
  · exact h' pins s σ H x y v u Q I rx ry q
def fAdd : FB := fun _ ds A => match ds with
  | [.int i, .int j] => .ok (.int (i + j)) A
  | [x, y] => match mutL A x with
    | none => .bad
    | some xs => match mutL A y with
      | none => .bad
      | some ys => if xs.length + ys.length ≤ 100000 then .ok (.new .lst (xs ++ ys)) A else .bad
  | _ => .bad
theorem sf_add {T : Tb} : SF T (r2 fun x y H Q => rI0 (fun i j => .int (i + j)) x y H Q ∨ rCat x y H Q) fAdd := by
  intro b ι A H ι1 A1 H1 vs ds fp Q E w hb n r f p
  unfold fAdd at p
  split at p
  · rename_i i j
    obtain ⟨v, w, f1, f2, rfl, rfl, q1, q2⟩ := r.two_inv
    cases q1; cases q2
    exact ⟨_, _, rfl, .inl ⟨i, j, rfl, rfl, p ι1 H1 _ [] n (.int _) .nil⟩⟩
  · rename_i x y _
    obtain ⟨v, u, f1, f2, rfl, rfl, q1, q2⟩ := r.two_inv
    split at p
    · exact p.elim
    · rename_i xs ex
      split at p
      · exact p.elim
      · rename_i ys ey
        split at p
        · rename_i hl
          obtain ⟨a, as, g1, rfl, h1, h2, h3⟩ := mutL_ok n.wd q1 ex
          obtain ⟨c, cs, g2, rfl, k1, k2, k3⟩ := mutL_ok n.wd q2 ey
          exact ⟨_, _, rfl, .inr ⟨a, c, as, cs, rfl, rfl, h1, k1, by rw [h2.len, k2.len]; exact size_ok hl, fun q hq => new_ok n (h2.append k2) (f.sub (h3.append k3)) hq p⟩⟩
        · exact p.elim
  · exact p.elim
def fMul : FB := fun _ ds A => match ds with
  | [.int i, .int j] => if i.natAbs.log2 + j.natAbs.log2 < 100000000 then .ok (.int (i * j)) A else .bad
  | [x, .int j] => match mutL A x with
    | none => .bad
    | some xs => if plains xs = true ∧ -100000 ≤ j ∧ j ≤ 100000 ∧ xs.length * j.toNat ≤ 100000 then .ok (.new .lst (List.replicate j.toNat xs).flatten) A else .bad
  | _ => .bad

/-! ### lengths, sums, truths -/
def fLen : FB := fun _ ds A => match ds with
  | [x] => match seqA A x with
    | none => .bad
    | some xs => .ok (.int xs.length) A
  | _ => .bad
theorem sf_len {T : Tb} : SF T (fun xs H Q => ∃ p ys, xs = [.ref p] ∧ (SqL T.K H p ys ∨ SqT T.K H p ys) ∧ Q (.int ys.length) H) fLen := by
  intro b ι A H ι1 A1 H1 vs ds fp Q E w hb n r f p
  unfold fLen at p
  split at p
  · rename_i x
    obtain ⟨v, rfl, q1⟩ := r.one_inv
    split at p
    · exact p.elim
    · rename_i xs ex
      obtain ⟨a, as, g1, rfl, h1, h2, h3⟩ := seqA_ok n.wd q1 ex
      refine ⟨a, as, rfl, h1, ?_⟩
      rw [h2.len]
      exact p ι1 H1 _ [] n (.int _) .nil
  · exact p.elim
def toInts : List Vl → Option (List Int)
  | [] => some []
  | .int i :: r => match toInts r with
    | none => none
    | some l => some (i :: l)
  | _ => none
def toBls : List Vl → Option (List Bool)
  | [] => some []
  | .bl i :: r => match toBls r with
    | none => none
    | some l => some (i :: l)
  | _ => none
theorem toInts_ok {T : Tb} {ι : List Addr} {H : Hp} : ∀ {xs : List Vl} {vs : List V} {fp : List Addr} {ns : List Int}, Rps T ι H vs xs fp → toInts xs = some ns → vs = ns.map V.int
  | [], _, _, _, h, e => by cases h; cases e; rfl
  | x :: r, _, _, _, h, e => by
    cases h with
    | cons h1 h2 =>
      cases x with
      | int i =>
        unfold toInts at e
        split at e
        · cases e
        · rename_i l hl
          cases e
          cases h1
          rw [toInts_ok h2 hl]; rfl
      | _ => cases e
theorem toBls_ok {T : Tb} {ι : List Addr} {H : Hp} : ∀ {xs : List Vl} {vs : List V} {fp : List Addr} {ns : List Bool}, Rps T ι H vs xs fp → toBls xs = some ns → vs = ns.map V.bl
  | [], _, _, _, h, e => by cases h; cases e; rfl
  | x :: r, _, _, _, h, e => by
    cases h with
    | cons h1 h2 =>
      cases x with
      | bl i =>
        unfold toBls at e
        split at e
        · cases e
        · rename_i l hl
          cases e
          cases h1
          rw [toBls_ok h2 hl]; rfl
      | _ => cases e
def fInts (g : List Int → Vl) : FB := fun _ ds A => match ds with
  | [x] => match seqL A x with
    | none => .bad
    | some xs => match toInts xs with
      | none => .bad
      | some ns => .ok (g ns) A
  | _ => .bad
def fBls (g : List Bool → Vl) : FB := fun _ ds A => match ds with
  | [x] => match seqL A x with
    | none => .bad
    | some xs => match toBls xs with
      | none => .bad
      | some ns => .ok (g ns) A
  | _ => .bad
def fSum : FB := fInts fun ns => .int ns.sum
def fAll : FB := fBls fun bs => .bl (bs.all id)
def fAny : FB := fBls fun bs => .bl (bs.any id)
theorem sf_sum {T : Tb} : SF T (rSum T.K) fSum := by
  intro b ι A H ι1 A1 H1 vs ds fp Q E w hb n r f p
  unfold fSum fInts at p
  split at p
  · rename_i x
    obtain ⟨v, rfl, q1⟩ := r.one_inv
    split at p
    · exact p.elim
    · rename_i xs ex
      obtain ⟨a, as, g1, rfl, h1, h2, h3⟩ := seqL_ok n.wd q1 ex
      split at p
      · exact p.elim
      · rename_i ns en
        rw [toInts_ok h2 en] at h1
        exact ⟨a, ns, rfl, h1, p ι1 H1 _ [] n (.int _) .nil⟩
  · exact p.elim
theorem sf_all {T : Tb} : SF T (rAll T.K) fAll := by
  intro b ι A H ι1 A1 H1 vs ds fp Q E w hb n r f p
  unfold fAll fBls at p
  split at p
  · rename_i x
    obtain ⟨v, rfl, q1⟩ := r.one_inv
    split at p
    · exact p.elim
    · rename_i xs ex
      obtain ⟨a, as, g1, rfl, h1, h2, h3⟩ := seqL_ok n.wd q1 ex
      split at p
      · exact p.elim
      · rename_i ns en
        rw [toBls_ok h2 en] at h1
        exact ⟨a, ns, rfl, h1, p ι1 H1 _ [] n (.bl _) .nil⟩
  · exact p.elim
theorem sf_any {T : Tb} : SF T (rAny T.K) fAny := by
  intro b ι A H ι1 A1 H1 vs ds fp Q E w hb n r f p
  unfold fAny fBls at p
  split at p
  · rename_i x
    obtain ⟨v, rfl, q1⟩ := r.one_inv
    split at p
    · exact p.elim
    · rename_i xs ex
      obtain ⟨a, as, g1, rfl, h1, h2, h3⟩ := seqL_ok n.wd q1 ex
      split at p
      · exact p.elim
      · rename_i ns en
        rw [toBls_ok h2 en] at h1
        exact ⟨a, ns, rfl, h1, p ι1 H1 _ [] n (.bl _) .nil⟩
  · exact p.elim
def fAbs : FB := fun _ ds A => match ds with
  | [.int i] => .ok (.int (if i < 0 then -i else i)) A
  | _ => .bad
theorem sf_abs {T : Tb} : SF T (fun xs H Q => ∃ i, xs = [.int i] ∧ Q (.int (if i < 0 then -i else i)) H) fAbs := by
  intro b ι A H ι1 A1 H1 vs ds fp Q E w hb n r f p
  unfold fAbs at p
  split at p
  · rename_i i
    obtain ⟨v, rfl, q1⟩ := r.one_inv
    cases q1
    exact ⟨i, rfl, p ι1 H1 _ [] n (.int _) .nil⟩
  · exact p.elim
def fNeg : FB := fun _ ds A => match ds with
  | [.int i] => .ok (.int (-i)) A
  | _ => .bad
theorem sf_neg {T : Tb} : SF T (r1 (rU fun i => .int (-i))) fNeg := by
  intro b ι A H ι1 A1 H1 vs ds fp Q E w hb n r f p
  unfold fNeg at p
  split at p
  · rename_i i
    obtain ⟨v, rfl, q1⟩ := r.one_inv
    cases q1
    exact ⟨_, rfl, i, rfl, p ι1 H1 _ [] n (.int _) .nil⟩
  · exact p.elim
def fMax : FB := fI0 fun i j => .int (if j > i then j else i)
def fMin : FB := fI0 fun i j => .int (if j < i then j else i)
theorem sf_max {T : Tb} : SF T (fun xs H Q => ∃ i j, xs = [.int i, .int j] ∧ Q (.int (if j > i then j else i)) H) fMax := by
  intro b ι A H ι1 A1 H1 vs ds fp Q E w hb n r f p
  obtain ⟨v, w, rfl, i, j, rfl, rfl, q⟩ := sf_I0 (g := fun i j => .int (if j > i then j else i)) (g' := fun i j => .int (if j > i then j else i)) (fun _ _ i j => .int _) b ι A H ι1 A1 H1 vs ds fp Q E w hb n r f p
  exact ⟨i, j, rfl, q⟩
theorem sf_min {T : Tb} : SF T (fun xs H Q => ∃ i j, xs = [.int i, .int j] ∧ Q (.int (if j < i then j else i)) H) fMin := by
  intro b ι A H ι1 A1 H1 vs ds fp Q E w hb n r f p
  obtain ⟨v, w, rfl, i, j, rfl, rfl, q⟩ := sf_I0 (g := fun i j => .int (if j < i then j else i)) (g' := fun i j => .int (if j < i then j else i)) (fun _ _ i j => .int _) b ι A H ι1 A1 H1 vs ds fp Q E w hb n r f p
  exact ⟨i, j, rfl, q⟩

/-! ### items -/
def fIx : FB := fun _ ds A => match ds with
  | [x, .int i] => match seqA A x with
    | none => .bad
    | some xs => match atI xs i with
      | none => .bad
      | some d => .ok d A
  | _ => .bad
theorem sf_ix {T : Tb} : SF T (r2 (rIx T.K)) fIx := by
  intro b ι A H ι1 A1 H1 vs ds fp Q E w hb n r f p
  unfold fIx at p
  split at p
  · rename_i x i
    obtain ⟨v, u, f1, f2, rfl, rfl, q1, q2⟩ := r.two_inv
    cases q2
    split at p
    · exact p.elim
    · rename_i xs ex
      obtain ⟨a, as, g1, rfl, h1, h2, h3⟩ := seqA_ok n.wd q1 ex
      split at p
      · exact p.elim
      · rename_i d ed
        obtain ⟨j, ej, ed⟩ : ∃ j, ixN xs.length i = some j ∧ xs[j]? = some d := by
          unfold atI at ed
          cases q : ixN xs.length i with
          | none => rw [q] at ed; cases ed
          | some j => rw [q] at ed; exact ⟨j, rfl, ed⟩
        obtain ⟨z, g2, k1, k2, k3⟩ := h2.get ed
        have ea : atI as i = some z := by
          unfold atI
          rw [h2.len, ej]; exact k1
        have q := p ι1 H1 z g2 n k2 (f.sub (k3.trans (h3.trans (List.sublist_append_left _ _))))
        refine ⟨_, _, rfl, ?_⟩
        rcases h1 with h1 | h1
        · exact .inl ⟨a, as, i, z, rfl, rfl, h1, ea, q⟩
        · exact .inr (.inl ⟨a, as, i, z, rfl, rfl, h1, ea, q⟩)
  · exact p.elim

/-! ### list(x) -/
def fList : FB := fun _ ds A => match ds with
  | [x] => match seqA A x with
    | none => .bad
    | some xs => .ok (.new .lst xs) A
  | _ => .bad
theorem sf_list {T : Tb} : SF T (fun xs H Q => ∃ p ys, xs = [.ref p] ∧ (SqL T.K H p ys ∨ SqT T.K H p ys) ∧ ∀ l, H l = none → Q (.ref l) (upd H l (.lst ys))) fList := by
  intro b ι A H ι1 A1 H1 vs ds fp Q E w hb n r f p
  unfold fList at p
  split at p
  · rename_i x
    obtain ⟨v, rfl, q1⟩ := r.one_inv
    split at p
    · exact p.elim
    · rename_i xs ex
      obtain ⟨a, as, g1, rfl, h1, h2, h3⟩ := seqA_ok n.wd q1 ex
      exact ⟨a, as, rfl, h1, fun q hq => new_ok n h2 (f.sub h3) hq p⟩
  · exact p.elim

/-! ### == by data -/
def mapO {α β : Type} (f : α → Option β) : List α → Option (List β)
  | [] => some []
  | x :: r => match f x with
    | none => none
    | some y => match mapO f r with
      | none => none
      | some l => some (y :: l)
def toD (A : AH) : Nat → Vl → Option PyData
  | 0, _ => none
  | f + 1, d => match d with
    | .non => some .none
    | .bl k => some (.bool k)
    | .int i => some (.int i)
    | .str x => some (.str x)
    | .tup xs => match mapO (toD A f) xs with
      | none => none
      | some l => some (.tuple l)
    | d => match seqL A d with
      | none => none
      | some xs => match mapO (toD A f) xs with
        | none => none
        | some l => some (.list l)
section
variable {T : Tb} {ι : List Addr} {H : Hp} {A : AH}
theorem mapO_toD {f : Nat} (ih : ∀ (d : Vl) (v : V) (fp : List Addr) (e : PyData), Rp T ι H v d fp → toD A f d = some e → Dp T.K H v e) : ∀ (xs : List Vl) (vs : List V) (fp : List Addr) (l : List PyData), Rps T ι H vs xs fp → mapO (toD A f) xs = some l → DpAll T.K H vs l
  | [], _, _, _, h, e => by cases h; cases e; exact .nil
  | x :: r, _, _, _, h, e => by
    cases h with
    | cons h1 h2 =>
      unfold mapO at e
      split at e
      · cases e
      · rename_i y ey
        split at e
        · cases e
        · rename_i l el
          cases e
          exact .cons (ih x _ _ y h1 ey) (mapO_toD ih r _ _ l h2 el)
theorem toD_ok (w : Wd T ι A H) : ∀ (f : Nat) (d : Vl) (v : V) (fp : List Addr) (e : PyData), Rp T ι H v d fp → toD A f d = some e → Dp T.K H v e
  | 0, _, _, _, _, _, h => by cases h
  | f + 1, d, v, fp, e, r, h => by
    unfold toD at h
    split at h
    · cases r; cases h; exact .non
    · cases r; cases h; exact .bl _
    · cases r; cases h; exact .int _
    · cases r; cases h; exact .str _
    · split at h
      · cases h
      · rename_i l el
        cases h
        cases r with
        | tup h1 h2 => exact .tup h1 (mapO_toD (toD_ok w f) _ _ _ l h2 el)
    · split at h
      · cases h
      · rename_i xs ex
        split at h
        · cases h
        · rename_i l el
          cases h
          obtain ⟨a, as, g1, rfl, h1, h2, h3⟩ := seqL_ok w r ex
          exact .lst h1 (mapO_toD (toD_ok w f) _ _ _ l h2 el)
end
def fEqD (neg : Bool) : FB := fun _ ds A => match ds with
  | [.int i, .int j] => .ok (.bl (if neg = true then !decide (i = j) else decide (i = j))) A
  | [.bl i, .bl j] => .ok (.bl (if neg = true then !decide (i = j) else decide (i = j))) A
  | [x, y] => match toD A 8 x with
    | none => .bad
    | some d => match toD A 8 y with
      | none => .bad
      | some e => if SeqAt.shaped d = true ∧ SeqAt.shaped e = true then .ok (.bl (if neg = true then !PyData.eqv d e else PyData.eqv d e)) A else .bad
  | _ => .bad
def rEqA (K : PySem.W.Frag) (neg : Bool) : R2 := if neg = true then (fun x y H Q => rNe x y H Q ∨ rNeD K x y H Q) else (fun x y H Q => rEq x y H Q ∨ rEqD K x y H Q)
theorem sf_eq {T : Tb} : SF T (r2 fun x y H Q => rEq x y H Q ∨ rEqD T.K x y H Q) (fEqD false) := by
  intro b ι A H ι1 A1 H1 vs ds fp Q E w hb n r f p
  unfold fEqD at p
  split at p
  · rename_i i j
    obtain ⟨v, u, f1, f2, rfl, rfl, q1, q2⟩ := r.two_inv
    cases q1; cases q2
    refine ⟨_, _, rfl, .inl ⟨rfl, ?_⟩⟩
    have e : decide (V.int i = V.int j) = decide (i = j) := by simp
    rw [e]
    exact p ι1 H1 _ [] n (.bl _) .nil
  · rename_i i j
    obtain ⟨v, u, f1, f2, rfl, rfl, q1, q2⟩ := r.two_inv
    cases q1; cases q2
    refine ⟨_, _, rfl, .inl ⟨rfl, ?_⟩⟩
    have e : decide (V.bl i = V.bl j) = decide (i = j) := by simp
    rw [e]
    exact p ι1 H1 _ [] n (.bl _) .nil
  · rename_i x y _ _
    obtain ⟨v, u, f1, f2, rfl, rfl, q1, q2⟩ := r.two_inv
    split at p
    · exact p.elim
    · rename_i d ed
      split at p
      · exact p.elim
      · rename_i e ee
        split at p
        · rename_i hs
          exact ⟨_, _, rfl, .inr ⟨d, e, toD_ok n.wd 8 x v f1 d q1 ed, toD_ok n.wd 8 y u f2 e q2 ee, hs.1, hs.2, p ι1 H1 _ [] n (.bl _) .nil⟩⟩
        · exact p.elim
  · exact p.elim
theorem sf_ne {T : Tb} : SF T (r2 fun x y H Q => rNe x y H Q ∨ rNeD T.K x y H Q) (fEqD true) := by
  intro b ι A H ι1 A1 H1 vs ds fp Q E w hb n r f p
  unfold fEqD at p
  split at p
  · rename_i i j
    obtain ⟨v, u, f1, f2, rfl, rfl, q1, q2⟩ := r.two_inv
    cases q1; cases q2
    refine ⟨_, _, rfl, .inl ⟨rfl, ?_⟩⟩
    have e : decide (V.int i = V.int j) = decide (i = j) := by simp
    rw [e]
    exact p ι1 H1 _ [] n (.bl _) .nil
  · rename_i i j
    obtain ⟨v, u, f1, f2, rfl, rfl, q1, q2⟩ := r.two_inv
    cases q1; cases q2
    refine ⟨_, _, rfl, .inl ⟨rfl, ?_⟩⟩
    have e : decide (V.bl i = V.bl j) = decide (i = j) := by simp
    rw [e]
    exact p ι1 H1 _ [] n (.bl _) .nil
  · rename_i x y _ _
    obtain ⟨v, u, f1, f2, rfl, rfl, q1, q2⟩ := r.two_inv
    split at p
    · exact p.elim
    · rename_i d ed
      split at p
      · exact p.elim
      · rename_i e ee
        split at p
        · rename_i hs
          exact ⟨_, _, rfl, .inr ⟨d, e, toD_ok n.wd 8 x v f1 d q1 ed, toD_ok n.wd 8 y u f2 e q2 ee, hs.1, hs.2, p ι1 H1 _ [] n (.bl _) .nil⟩⟩
        · exact p.elim
  · exact p.elim
end Ab

set_option Elab.async false
set_option linter.all false
set_option maxRecDepth 100000
set_option maxHeartbeats 1000000
set_option autoImplicit false
/-! Ab5: more built-ins: sorted, list(range), isinstance, in, slices, append; calls. -/
namespace Ab
open PySem PySem.Spec PyProof.Rows L2

/-! ### sorted -/
def ins (x : Int) : List Int → List Int
  | [] => [x]
  | y :: r => if x ≤ y then x :: y :: r else y :: ins x r
def isort : List Int → List Int
  | [] => []
  | x :: r => ins x (isort r)
theorem ins_perm (x : Int) : ∀ l : List Int, (ins x l).Perm (x :: l)
  | [] => List.Perm.refl _
  | y :: r => by
    unfold ins
    split
    · exact List.Perm.refl _
    · exact ((ins_perm x r).cons y).trans (List.Perm.swap x y r)
theorem isort_perm : ∀ l : List Int, (isort l).Perm l
  | [] => List.Perm.refl _
  | x :: r => (ins_perm x (isort r)).trans ((isort_perm r).cons x)
theorem ins_sorted (x : Int) : ∀ l : List Int, l.Pairwise (· ≤ ·) → (ins x l).Pairwise (· ≤ ·)
  | [], _ => by unfold ins; exact List.pairwise_singleton _ _
  | y :: r, h => by
    unfold ins
    rw [List.pairwise_cons] at h
    split
    · rename_i hxy
      rw [List.pairwise_cons, List.pairwise_cons]
      exact ⟨fun z hz => by
        rcases List.mem_cons.mp hz with e | e
        · rw [e]; exact hxy
        · exact Int.le_trans hxy (h.1 z e), h.1, h.2⟩
    · rename_i hxy
      rw [List.pairwise_cons]
      refine ⟨fun z hz => ?_, ins_sorted x r h.2⟩
      rcases List.mem_cons.mp ((ins_perm x r).mem_iff.mp hz) with e | e
      · rw [e]; omega
      · exact h.1 z e
theorem isort_sorted : ∀ l : List Int, (isort l).Pairwise (· ≤ ·)
  | [] => List.Pairwise.nil
  | x :: r => ins_sorted x _ (isort_sorted r)
theorem isort_eq {a l : List Int} (p : a.Perm l) (s : a.Pairwise (· ≤ ·)) : isort l = a :=
  PySem.W.ksm_same ((isort_perm l).trans p.symm) (isort_sorted l) s
theorem rps_ints {T : Tb} {ι : List Addr} {H : Hp} : ∀ ns : List Int, Rps T ι H (ns.map V.int) (ns.map Vl.int) []
  | [] => .nil
  | n :: r => .cons (fp := []) (fq := []) (.int n) (rps_ints r)
def fSorted : FB := fInts fun ns => .new .lst ((isort ns).map Vl.int)
theorem sf_sorted {T : Tb} : SF T (rSortedI T.K) fSorted := by
  intro b ι A H ι1 A1 H1 vs ds fp Q E w hb n r f p
  unfold fSorted fInts at p
  split at p
  · rename_i x
    obtain ⟨v, rfl, q1⟩ := r.one_inv
    split at p
    · exact p.elim
    · rename_i xs ex
      obtain ⟨a, as, g1, rfl, h1, h2, h3⟩ := seqL_ok n.wd q1 ex
      split at p
      · exact p.elim
      · rename_i ns en
        rw [toInts_ok h2 en] at h1
        refine ⟨a, ns, rfl, h1, fun ns' q hp hs hq => ?_⟩
        rw [← isort_eq hp hs]
        exact new_ok n (rps_ints _) .nil hq p
  · exact p.elim

/-! ### list(range(..)) -/
def rgL (a b : Int) : List Vl := (List.range (b - a).toNat).map fun i => Vl.int (a + (i : Nat))
theorem rps_rg {T : Tb} {ι : List Addr} {H : Hp} (a b : Int) : Rps T ι H (rgV a b) (rgL a b) [] := by
  unfold rgV rgL
  have h : ∀ l : List Nat, Rps T ι H (l.map fun i => V.int (a + (i : Nat))) (l.map fun i => Vl.int (a + (i : Nat))) [] := fun l => by
    induction l with
    | nil => exact .nil
    | cons x r ih => exact .cons (fp := []) (fq := []) (.int _) ih
  exact h _
def fRgL : FB := fun _ ds A => match ds with
  | [.int i, .int j] => if 0 ≤ i ∧ j ≤ 100000 ∧ i ≤ 100000 ∧ -100000 ≤ j then .ok (.new .lst (rgL i j)) A else .bad
  | _ => .bad
def cRgL1 (c : CE) : CE := fun ρ A => (c ρ A).bind fun d A1 => fRgL ρ.b [.int 0, d] A1
section
variable {X : Cx} {T : Tb} {E : XE} {a e : Expr} {pos p q : Pos} {ca cb : CE}
theorem sf_rgL {b : Nat} {ι ι1 : List Addr} {A A1 : AH} {H H1 : Hp} {x y : Vl} {v w : V} {f1 f2 : List Addr} {Q : VK} (n : Nx T b ι A H ι1 A1 H1) (r1 : Rp T ι1 H1 v x f1) (r2 : Rp T ι1 H1 w y f2) (h : Po T b ι A H (fRgL b [x, y] A1) Q E) :
    ∃ i j, v = .int i ∧ w = .int j ∧ RgOk i j ∧ ∀ l, H1 l = none → Q (.ref l) (upd H1 l (.lst (rgV i j))) := by
  unfold fRgL at h
  split at h
  · rename_i i j e
    cases e
    cases r1; cases r2
    split at h
    · rename_i hc
      exact ⟨i, j, rfl, rfl, ⟨by omega, by omega, by omega, by omega, by omega⟩, fun l hl => new_ok n (rps_rg i j) .nil hl h⟩
    · exact h.elim
  · exact h.elim
theorem ge_listRg1 (hc : X.calm = true) (hgl : Gl X "list") (hml : X.mg "list" = none) (hgr : Gl X "range") (hmr : X.mg "range" = none) (ha : PE X a (tE T E ca)) {pr qr : Pos}
    (na : starEach [a] X.env = (false, eval a X.env) :: starEach [] X.env := by rfl) : PE X (.Call (.Name "list" p) [.Call (.Name "range" pr) [a] [] qr] [] q) (tE T E (cRgL1 ca)) :=
  PE.imp (pe_listRg hc hgl hml (prg_1 hgr hmr ha na) rfl) fun σ H Q h => by
    obtain ⟨ι, A, ρ, at0, p⟩ := h
    refine ⟨ι, A, ρ, at0, ?_⟩
    unfold cRgL1 at p
    cases e : ca ρ A with
    | bad => rw [e] at p; exact p
    | exc k A' => rw [e] at p; exact p
    | ok d A' =>
      rw [e] at p
      intro ι1 H1 v fp n rp f
      obtain ⟨i, j, e1, e2, hr, hq⟩ := sf_rgL n (.int 0) rp (show Po T ρ.b ι A H (fRgL ρ.b [.int 0, d] A') Q E from p)
      cases e1
      exact ⟨j, e2, hr, hq⟩
theorem ge_listRg2 {b : Expr} (hc : X.calm = true) (hgl : Gl X "list") (hml : X.mg "list" = none) (hgr : Gl X "range") (hmr : X.mg "range" = none) (ha : PE X a (tE T E ca)) (hb : PE X b (tE T E cb)) {pr qr : Pos}
    (na : starEach [a, b] X.env = (false, eval a X.env) :: starEach [b] X.env := by rfl) (nb : starEach [b] X.env = (false, eval b X.env) :: starEach [] X.env := by rfl) (hp : (backTo qr (starEach [b] X.env)).any (·.1) = false := by rfl) :
    PE X (.Call (.Name "list" p) [.Call (.Name "range" pr) [a, b] [] qr] [] q) (tE T E (cF2 fRgL ca cb)) :=
  PE.imp (pe_listRg hc hgl hml (prg_2 hgr hmr ha hb na nb hp) rfl) fun σ H Q h => by
    have z := tE_two (r := fun vs H Q => ∃ v w, vs = [v, w] ∧ ∃ i j, v = .int i ∧ w = .int j ∧ RgOk i j ∧ ∀ l, H l = none → Q (.ref l) (upd H l (.lst (rgV i j)))) (fun b ι A H ι1 A1 H1 vs ds fp Q E w hb n r f p => by
      by_cases hd : ∃ x y, ds = [x, y]
      · obtain ⟨x, y, rfl⟩ := hd
        obtain ⟨v, u, g1, g2, rfl, rfl, q1, q2⟩ := r.two_inv
        exact ⟨v, u, rfl, sf_rgL n q1 q2 p⟩
      · unfold fRgL at p
        split at p
        · exact absurd ⟨_, _, rfl⟩ hd
        · exact p.elim) h
    obtain ⟨ι, A, ρ, at0, p⟩ := z
    refine ⟨ι, A, ρ, at0, ?_⟩
    cases e : ca ρ A with
    | bad => rw [e] at p; exact p
    | exc k A' => rw [e] at p; exact p
    | ok d A' =>
      rw [e] at p
      intro ι1 H1 v fp n rp f
      obtain ⟨ι2, A2, ρ2, at2, p2⟩ := p ι1 H1 v fp n rp f
      refine ⟨ι2, A2, ρ2, at2, ?_⟩
      cases e2 : cb ρ2 A2 with
      | bad => rw [e2] at p2; exact p2
      | exc k A' => rw [e2] at p2; exact p2
      | ok d2 A3 =>
        rw [e2] at p2
        intro ι3 H3 w fq m rq g
        obtain ⟨v', w', e3, i, j, e4, e5, hr, hq⟩ := p2 ι3 H3 w fq m rq g
        cases e3
        exact ⟨i, j, e4, e5, hr, hq⟩
end

/-! ### isinstance with a built-in class -/
inductive Tg where
  | non | bl | int | str | lst | tup | dct
  deriving DecidableEq
def Tg.nm : Tg → String
  | .non => "NoneType" | .bl => "bool" | .int => "int" | .str => "str" | .lst => "list" | .tup => "tuple" | .dct => "dict"
def tgOf (A : AH) : Vl → Option Tg
  | .non => some .non
  | .bl _ => some .bl
  | .int _ => some .int
  | .str _ => some .str
  | .tup _ => some .tup
  | .rol _ => some .lst
  | .new .lst _ => some .lst
  | .new (.dct _) _ => some .dct
  | .loc n => match A[n]? with
    | some (.lst, _) => some .lst
    | some (.dct _, _) => some .dct
    | _ => none
  | _ => none
def isiB : Tg → Tg → Bool
  | .bl, .int => true
  | a, b => decide (a = b)
theorem kit_tab (t n : Tg) (h : n ≠ .non ∧ n ≠ .dct) : kitB t.nm n.nm = some (isiB t n) := by
  obtain ⟨h1, h2⟩ := h
  cases n <;> first | exact absurd rfl h1 | exact absurd rfl h2 | (cases t <;> decide +kernel)
def fIsi (n : Tg) : FB := fun _ ds A => match ds with
  | [x] => match tgOf A x with
    | none => .bad
    | some t => .ok (.bl (isiB t n)) A
  | _ => .bad
theorem tgOf_ok {T : Tb} {ι : List Addr} {A : AH} {H : Hp} {v : V} {d : Vl} {fp : List Addr} {t : Tg} (w : Wd T ι A H) (r : Rp T ι H v d fp) (e : tgOf A d = some t) : TyX T.K H v (.type t.nm) := by
  cases r with
  | non => cases e; exact .base .non
  | bl b => cases e; exact .base (.bl b)
  | int b => cases e; exact .base (.int b)
  | str b => cases e; exact .base (.str b)
  | fn _ => cases e
  | @loc n a hl =>
    simp only [tgOf] at e
    split at e
    · rename_i xs ha
      cases e
      obtain ⟨o, vs, q1, q2, q3⟩ := w.cel _ _ _ _ ha hl
      rw [show o = HO.lst vs from q2] at q1
      exact .base (.lst q1)
    · rename_i kvs xs ha
      cases e
      obtain ⟨o, vs, q1, q2, q3⟩ := w.cel _ _ _ _ ha hl
      rw [q2.2] at q1
      exact .base (.dK q1)
    · cases e
  | tup h1 h2 =>
    cases e
    rcases h1 with (h | ⟨o, h⟩) | ⟨o, its, n, h, h', _⟩
    · exact .base (.tup h)
    · exact .fTuple h
    · exact .kTuple h h'
  | rol h1 h2 =>
    cases e
    rcases h1 with ⟨o, h⟩ | ⟨o, its, n, h, h', _⟩
    · exact .base (.frz h)
    · exact .kList h h'
  | @new a k o vs xs fp h1 h2 h3 =>
    cases k with
    | lst =>
      cases e
      rw [show o = HO.lst vs from h2] at h1
      exact .base (.lst h1)
    | dct kvs =>
      cases e
      rw [h2.2] at h1
      exact .base (.dK h1)
    | obj c => cases e
theorem sf_isi {T : Tb} {n : Tg} (hn : n ≠ .non ∧ n ≠ .dct) : SF T (fun vs H Q => ∃ v, vs = [v] ∧ rIsi T.K [v, .ty n.nm] H Q) (fIsi n) := by
  intro b ι A H ι1 A1 H1 vs ds fp Q E w hb x r f p
  unfold fIsi at p
  split at p
  · rename_i d
    obtain ⟨v, rfl, q1⟩ := r.one_inv
    split at p
    · exact p.elim
    · rename_i t et
      exact ⟨v, rfl, v, .ty n.nm, .type t.nm, .type n.nm, isiB t n, rfl, .ty _, tgOf_ok x.wd q1 et, kit_ty (kit_tab t n hn), p ι1 H1 _ [] x (.bl _) .nil⟩
  · exact p.elim
theorem ge_isi {X : Cx} {T : Tb} {E : XE} {a : Expr} {ca : CE} {pos p q : Pos} {x : Str} (n : Tg) (hK : T.K = X.K) (hn : n ≠ .non ∧ n ≠ .dct) (hg : Gl X "isinstance") (hm : X.mg "isinstance" = none) (hg2 : Gl X x) (hm2 : X.mg x = none) (hv : bootBuiltins x = some (.type n.nm)) (ha : PE X a (tE T E ca)) (hx : x ≠ "__name__") (hxd : (x == ("__debug__" : Str)) = false)
    (hb : bootBuiltins "isinstance" = some (.builtin "isinstance"))
    (hs : starEach [a, .Name x q] X.env = (false, eval a X.env) :: starEach [.Name x q] X.env := by rfl) : PE X (.Call (.Name "isinstance" p) [a, .Name x q] [] pos) (tE T E (cF1 (fIsi n) ca)) := by
  refine PE.imp (pe_callB call_isi hg hm hb (pa_cons ha (pa_cons (pe_bltn (v := .ty n.nm) hg2 hm2 hv rfl hx hxd) pa_nil) hs) (by decide) (by decide) hs) fun σ H Q h => ?_
  have z := tE_one (sf_isi hn) h
  rw [hK] at z
  obtain ⟨ι, A, ρ, at0, p⟩ := z
  refine ⟨ι, A, ρ, at0, ?_⟩
  cases e : ca ρ A with
  | bad => rw [e] at p; exact p
  | exc k A' => rw [e] at p; exact p
  | ok d A' =>
    rw [e] at p
    intro ι1 H1 v fp n rp f
    obtain ⟨v', e1, z⟩ := p ι1 H1 v fp n rp f
    cases e1
    exact z

/-! ### in -/
def sc : Vl → Option V
  | .non => some .non
  | .bl b => some (.bl b)
  | .int b => some (.int b)
  | .str b => some (.str b)
  | _ => none
def fIn (neg : Bool) : FB := fun _ ds A => match ds with
  | [x, y] => match seqA A y with
    | none => .bad
    | some xs => match sc x, mapO sc xs with
      | some v, some vs => .ok (.bl (if neg then !inV v vs else inV v vs)) A
      | _, _ => match toD A 8 x, toD A 8 y with
        | some d, some (.list l) => if SeqAt.shaped d = true ∧ SeqAt.shaped (.list l) = true then .ok (.bl (if neg then !l.any (fun z => PyData.eqv z d) else l.any (fun z => PyData.eqv z d))) A else .bad
        | _, _ => .bad
  | _ => .bad
section
variable {T : Tb} {ι : List Addr} {H : Hp} {A : AH}
theorem sc_ok {d : Vl} {v u : V} {fp : List Addr} (r : Rp T ι H v d fp) (e : sc d = some u) : v = u ∧ flatV u = true := by
  cases r <;> first | (cases e; exact ⟨rfl, rfl⟩) | cases e
theorem scs_ok : ∀ {xs : List Vl} {vs us : List V} {fp : List Addr}, Rps T ι H vs xs fp → mapO sc xs = some us → vs = us ∧ us.all flatV = true
  | [], _, _, _, h, e => by cases h; cases e; exact ⟨rfl, rfl⟩
  | x :: r, _, _, _, h, e => by
    cases h with
    | cons h1 h2 =>
      unfold mapO at e
      split at e
      · cases e
      · rename_i y ey
        split at e
        · cases e
        · rename_i l el
          cases e
          obtain ⟨rfl, q1⟩ := sc_ok h1 ey
          obtain ⟨rfl, q2⟩ := scs_ok h2 el
          exact ⟨rfl, by rw [List.all_cons, q1, q2]; rfl⟩
end
def rInA (K : PySem.W.Frag) (neg : Bool) : R2 := fun x y H Q => rIn K neg x y H Q ∨ ∃ d ds, Dp K H x d ∧ Dp K H y (.list ds) ∧ SeqAt.shaped d = true ∧ SeqAt.shaped (.list ds) = true ∧ Q (.bl (if neg then !ds.any (fun z => PyData.eqv z d) else ds.any fun z => PyData.eqv z d)) H
theorem op_inA {X : Cx} (hu : X.A.units + 65 < cLine) : OpR X (compareOp .In) (rInA X.K false) := op_or op_in_seq (op_inD hu)
theorem op_notInA {X : Cx} (hu : X.A.units + 65 < cLine) : OpR X (compareOp .NotIn) (rInA X.K true) := op_or op_notIn_seq (op_notInD hu)
theorem sf_in {T : Tb} {neg : Bool} : SF T (r2 (rInA T.K neg)) (fIn neg) := by
  intro b ι A H ι1 A1 H1 vs ds fp Q E w hb n r f p
  unfold fIn at p
  split at p
  · rename_i x y
    obtain ⟨v, u, f1, f2, rfl, rfl, q1, q2⟩ := r.two_inv
    split at p
    · exact p.elim
    · rename_i xs ex
      split at p
      · rename_i v' vs' ev evs
        obtain ⟨a, as, g1, rfl, h1, h2, h3⟩ := seqA_ok n.wd q2 ex
        obtain ⟨rfl, fl⟩ := sc_ok q1 ev
        obtain ⟨rfl, fls⟩ := scs_ok h2 evs
        exact ⟨_, _, rfl, .inl ⟨a, _, rfl, h1, fl, fls, p ι1 H1 _ [] n (.bl _) .nil⟩⟩
      · split at p
        · rename_i d l ed el
          split at p
          · rename_i hs
            exact ⟨_, _, rfl, .inr ⟨d, l, toD_ok n.wd 8 x v f1 d q1 ed, toD_ok n.wd 8 y u f2 _ q2 el, hs.1, hs.2, p ι1 H1 _ [] n (.bl _) .nil⟩⟩
          · exact p.elim
        · exact p.elim
  · exact p.elim

/-! ### slices -/
def cut {α : Type} (xs : List α) (lo hi : Option Int) : List α := (xs.drop (HT.sIx xs.length 0 lo)).take (HT.sIx xs.length xs.length hi - HT.sIx xs.length 0 lo)
def cPart (c : Option CE) : Ev → AH → Res (Option Int) := fun ρ A => match c with
  | none => .ok none A
  | some c => (c ρ A).bind fun d A1 => match d with
    | .int i => .ok (some i) A1
    | _ => .bad
def fCut (x : Vl) (lo hi : Option Int) (A : AH) : Res Vl := match seqL A x with
  | none => .bad
  | some xs => .ok (.new .lst (cut xs lo hi)) A
def cSl (c : CE) (lo hi : Option CE) : CE := fun ρ A => (c ρ A).bind fun x A1 => (cPart lo ρ A1).bind fun l A2 => (cPart hi ρ A2).bind fun h A3 => fCut x l h A3
inductive PPart (X : Cx) (T : Tb) (E : XE) : Option Expr → Option CE → Prop
  | none : PPart X T E Option.none Option.none
  | some {e : Expr} {c : CE} (h : PE X e (tE T E c)) : PPart X T E (Option.some e) (Option.some c)
def tO (T : Tb) (E : XE) (c : Option CE) : TO := fun σ H Q => ∃ ι A ρ, At T σ H ι A ρ ∧ match cPart c ρ A with
  | .ok i A' => ∀ ι' H', Nx T ρ.b ι A H ι' A' H' → Q i H'
  | .exc k A' => ∀ ι' H', Nx T ρ.b ι A H ι' A' H' → E k H'
  | .bad => False
theorem PPart.po {X : Cx} {T : Tb} {E : XE} {e : Option Expr} {c : Option CE} (h : PPart X T E e c) : PO X e (tO T E c) := by
  cases h with
  | none =>
    refine ⟨fun pins s σ H Q I h => po_none.run pins s σ H Q I ?_⟩
    obtain ⟨ι, A, ρ, a, p⟩ := h
    exact p ι H (.refl a.wd)
  | some h =>
    refine ⟨fun pins s σ H Q I q => (po_some h).run pins s σ H Q I ?_⟩
    obtain ⟨ι, A, ρ, a, p⟩ := q
    refine ⟨ι, A, ρ, a, ?_⟩
    rename_i e' c'
    unfold cPart at p
    dsimp only at p
    cases ec : c' ρ A with
    | bad => rw [ec] at p; exact p
    | exc k A' => rw [ec] at p; exact p
    | ok d A' =>
      rw [ec] at p
      intro ι1 H1 v fp n rp f
      cases d with
      | int i => cases rp; exact ⟨i, rfl, p ι1 H1 n⟩
      | _ => exact False.elim p
theorem ge_sl {X : Cx} {T : Tb} {E : XE} {a : Expr} {ca : CE} {lo hi : Option Expr} {clo chi : Option CE} {p2 pos : Pos} (hK : T.K = X.K) (ha : PE X a (tE T E ca)) (hl : PPart X T E lo clo) (hh : PPart X T E hi chi) : PE X (.Subscript a (.Slice lo hi none p2) pos) (tE T E (cSl ca clo chi)) :=
  PE.imp (pe_slice sl_list ha hl.po hh.po) fun σ H Q q => by
    obtain ⟨ι, A, ρ, at0, p⟩ := q
    refine ⟨ι, A, ρ, at0, ?_⟩
    unfold cSl at p
    cases e : ca ρ A with
    | bad => rw [e] at p; exact p
    | exc k A' => rw [e] at p; exact p
    | ok d A' =>
      rw [e] at p
      intro ι1 H1 v fp n rp f
      refine ⟨ι1, A', ρ, at0.next n, ?_⟩
      have p : Po T ρ.b ι A H ((cPart clo ρ A').bind fun l A2 => (cPart chi ρ A2).bind fun h A3 => fCut d l h A3) Q E := p
      cases e2 : cPart clo ρ A' with
      | bad => rw [e2] at p; exact p
      | exc k A2 => rw [e2] at p; exact fun ι' H' m => p ι' H' (n.trans m)
      | ok l A2 =>
        rw [e2] at p
        intro ι2 H2 n2
        refine ⟨ι2, A2, ρ, (at0.next n).next n2, ?_⟩
        have p : Po T ρ.b ι A H ((cPart chi ρ A2).bind fun h A3 => fCut d l h A3) Q E := p
        cases e3 : cPart chi ρ A2 with
        | bad => rw [e3] at p; exact p
        | exc k A3 => rw [e3] at p; exact fun ι' H' m => p ι' H' ((n.trans n2).trans m)
        | ok h A3 =>
          rw [e3] at p
          intro ι3 H3 n3
          have p : Po T ρ.b ι A H (fCut d l h A3) Q E := p
          unfold fCut at p
          split at p
          · exact p.elim
          · rename_i xs ex
            obtain ⟨rp3, f3⟩ := Rps.next (H := H) n.wd (n2.trans n3) (Rps.one rp) f (Rp.dom d v fp rp)
            obtain ⟨v', ev, rp3⟩ := rp3.one_inv
            cases ev
            obtain ⟨c, cs, g1, rfl, h1, h2, h3⟩ := seqL_ok n3.wd rp3 ex
            rw [hK] at h1
            refine ⟨c, cs, rfl, h1, fun q hq => ?_⟩
            obtain ⟨g2, k1, k2⟩ := h2.drop (HT.sIx xs.length 0 l)
            obtain ⟨g3, k3, k4⟩ := k1.takeN (HT.sIx xs.length xs.length h - HT.sIx xs.length 0 l)
            have ecut : cutV cs l h = (cs.drop (HT.sIx xs.length 0 l)).take (HT.sIx xs.length xs.length h - HT.sIx xs.length 0 l) := by
              unfold cutV; rw [h2.len]
            rw [ecut]
            exact new_ok ((n.trans n2).trans n3) k3 (f3.sub (k4.trans (k2.trans h3))) hq p
end Ab

set_option Elab.async false
set_option linter.all false
set_option maxRecDepth 100000
set_option maxHeartbeats 1000000
set_option autoImplicit false
/-! Ab6: stores, append; calls and defs. -/
namespace Ab
open PySem PySem.Spec PyProof.Rows L2

section
variable {T : Tb} {ι ι0 ι1 : List Addr} {H H0 H1 : Hp} {A A0 A1 : AH} {b : Nat}
mutual
theorem lt_mono {m n : Nat} (h : m ≤ n) : ∀ d : Vl, lt m d = true → lt n d = true
  | .non, _ => rfl
  | .bl _, _ => rfl
  | .int _, _ => rfl
  | .str _, _ => rfl
  | .fn _, _ => rfl
  | .loc k, e => by rw [lt] at e ⊢; exact decide_eq_true (Nat.lt_of_lt_of_le (of_decide_eq_true e) h)
  | .tup xs, e => by rw [lt] at e ⊢; exact lts_mono h xs e
  | .rol xs, e => by rw [lt] at e ⊢; exact lts_mono h xs e
  | .new _ xs, e => by rw [lt] at e ⊢; exact lts_mono h xs e
theorem lts_mono {m n : Nat} (h : m ≤ n) : ∀ xs : List Vl, lts m xs = true → lts n xs = true
  | [], _ => rfl
  | x :: r, e => by
    rw [lts, Bool.and_eq_true] at e ⊢
    exact ⟨lt_mono h x e.1, lts_mono h r e.2⟩
end
theorem lts_append {n : Nat} : ∀ {xs ys : List Vl}, lts n (xs ++ ys) = (lts n xs && lts n ys)
  | [], ys => by simp [lts]
  | x :: xs, ys => by simp [lts, lts_append, Bool.and_assoc]
/-- a cell is changed -/
theorem Nx.store {l : Nat} {a : Addr} {k : Kd} {xs : List Vl} {k' : Kd} {xs' : List Vl} {o' : HO} {vs' : List V} (n : Nx T b ι0 A0 H0 ι1 A1 H1) (hA : A1[l]? = some (k, xs)) (ha : ι1[l]? = some a) (h2 : KOk T k' vs' o') (h3 : Rps T ι1 H1 vs' xs' [])
    (hcl : ∀ m, l < m → m ≤ b → lts m xs = true → lts m xs' = true) : Nx T b ι0 A0 H0 ι1 (A1.set l (k', xs')) (L2.upd H1 a o') := by
  obtain ⟨o, vs, q1, q2, q3⟩ := n.wd.cel l k xs a hA ha
  have hl : l < A1.length := (List.getElem?_eq_some_iff.mp hA).1
  have hi : imm o = false := q2.mut
  have e1 : Ext ι1 H1 ι1 (L2.upd H1 a o') := ⟨⟨[], by simp, by simp⟩, fun c u hc hk => by
    have hca : c ≠ a := fun z => by
      subst z
      rcases hk with hk | hk
      · exact hk (List.mem_of_getElem? ha)
      · rw [q1] at hc; cases hc; rw [hi] at hk; cases hk
    rw [upd_ne hca]; exact hc, fun c u hc => by
    by_cases hca : c = a
    · subst hca; exact ⟨o', upd_same⟩
    · exact ⟨u, by rw [upd_ne hca]; exact hc⟩⟩
  refine ⟨⟨by rw [List.length_set]; exact n.wd.len, n.wd.nd, fun j kj ys c e f => ?_⟩, n.ext.trans e1, fun m hm z => ?_⟩
  · by_cases hj : l = j
    · subst hj
      rw [List.getElem?_set_self hl] at e
      cases e
      rw [ha] at f; cases f
      exact ⟨o', vs', upd_same, h2, Rps.mono e1 _ _ _ h3 (by simp)⟩
    · rw [List.getElem?_set_ne hj] at e
      obtain ⟨u, us, p1, p2, p3⟩ := n.wd.cel j kj ys c e f
      have hca : c ≠ a := fun z => by
        subst z
        obtain ⟨l1, _⟩ := List.getElem?_eq_some_iff.mp ha
        exact hj ((List.getElem?_inj l1 n.wd.nd).mp (ha.trans f.symm))
      exact ⟨u, us, by rw [upd_ne hca]; exact p1, p2, Rps.mono e1 _ _ _ p3 (by simp)⟩
  · intro j kj ys hj e
    by_cases hjl : l = j
    · subst hjl
      rw [List.getElem?_set_self hl] at e
      cases e
      exact hcl m hj hm (n.cl m hm z l k xs hj hA)
    · rw [List.getElem?_set_ne hjl] at e
      exact n.cl m hm z j kj ys hj e
/-- new things get their places -/
theorem Nx.boxed {ds : List Vl} {vs : List V} {fp : List Addr} (hb : b ≤ A1.length) (n : Nx T b ι0 A0 H0 ι1 A1 H1) (r : Rps T ι1 H1 vs ds fp) (f : Fr H0 ι1 fp) :
    Nx T b ι0 A0 H0 (ι1 ++ fp) (boxs ds A1).2 H1 ∧ Rps T (ι1 ++ fp) H1 vs (boxs ds A1).1 [] ∧ ∃ ex, (boxs ds A1).2 = A1 ++ ex := by
  obtain ⟨q1, q2, ex, q3⟩ := boxs_ok ds vs fp ι1 A1 n.wd r f.1 f.off
  refine ⟨⟨q1, ?_, fun m hm z => (n.cl m hm z).pre fun j hj => ?_⟩, q2, ex, q3⟩
  · obtain ⟨nw, e, hn⟩ := n.ext.pre
    refine ⟨⟨nw ++ fp, by rw [e, List.append_assoc], fun a ha => ?_⟩, n.ext.keep, n.ext.dom⟩
    rcases List.mem_append.mp ha with z | z
    · exact hn a z
    · exact (f.2 a z).1
  · rw [q3, List.getElem?_append_left (by omega)]
theorem Nx.boxed1 {d : Vl} {v : V} {fp : List Addr} (hb : b ≤ A1.length) (n : Nx T b ι0 A0 H0 ι1 A1 H1) (r : Rp T ι1 H1 v d fp) (f : Fr H0 ι1 fp) :
    Nx T b ι0 A0 H0 (ι1 ++ fp) (box d A1).2 H1 ∧ Rp T (ι1 ++ fp) H1 v (box d A1).1 [] ∧ ∃ ex, (box d A1).2 = A1 ++ ex := by
  obtain ⟨q1, q2, ex, q3⟩ := box_ok d v fp ι1 A1 n.wd r f.1 f.off
  refine ⟨⟨q1, ?_, fun m hm z => (n.cl m hm z).pre fun j hj => ?_⟩, q2, ex, q3⟩
  · obtain ⟨nw, e, hn⟩ := n.ext.pre
    refine ⟨⟨nw ++ fp, by rw [e, List.append_assoc], fun a ha => ?_⟩, n.ext.keep, n.ext.dom⟩
    rcases List.mem_append.mp ha with z | z
    · exact hn a z
    · exact (f.2 a z).1
  · rw [q3, List.getElem?_append_left (by omega)]
/-- cut back -/
theorem Nx.cut {n : Nat} (w0 : Wd T ι0 A0 H0) (x : Nx T b ι0 A0 H0 ι1 A1 H1) (hb : b ≤ n) (h0 : A0.length ≤ n) (c : CL n A1) : Nx T b ι0 A0 H0 (ι1.take n) (A1.take n) H1 := by
  by_cases hn : A1.length ≤ n
  · rw [List.take_of_length_le hn, List.take_of_length_le (by rw [x.wd.len]; exact hn)]
    exact x
  · obtain ⟨nw, en, fn⟩ := x.ext.pre
    have hl : ι0.length ≤ n := by rw [w0.len]; exact h0
    have et : ι1.take n = ι0 ++ nw.take (n - ι0.length) := by rw [en, List.take_append, List.take_of_length_le hl]
    exact ⟨x.wd.take c (by omega), ⟨⟨_, et, fun a ha => fn a (List.mem_of_mem_take ha)⟩, x.ext.keep, x.ext.dom⟩, fun m hm z => (x.cl m hm z).pre fun j hj => by rw [List.getElem?_take_of_lt (by omega)]⟩
end

/-! ### list methods -/
def cM (F : FB) (co : CE) (cs : CA) : CE := fun ρ A => (co ρ A).bind fun x A1 => match seqL A1 x with
  | none => .bad
  | some _ => (cs ρ A1).bind fun ds A2 => F ρ.b (x :: ds) A2
def cM0 (F : FB) (co : CE) : CE := fun ρ A => (co ρ A).bind fun x A1 => match seqL A1 x with
  | none => .bad
  | some _ => F ρ.b [x] A1
def rM (r : V → List V → Hp → VK → Prop) : List V → Hp → VK → Prop := fun vs H Q => ∃ x xs, vs = x :: xs ∧ r x xs H Q
theorem ge_m {X : Cx} {T : Tb} {E : XE} {F : FB} {o e : Expr} {es : List Expr} {co : CE} {cs : CA} {name : Str} {apos cpos : Pos} {id : String} {r : V → List V → Hp → VK → Prop} (hK : T.K = X.K) (slot : Slot "list" name id) (hty : typeOf (.builtin id) = pure (.type "method_descriptor")) (hm : MtR X id r) (hf : SF T (rM r) F)
    (ho : PE X o (tE T E co)) (ha : PA X (e :: es) (tA T E cs)) (hbase : attributeBase o name X.env (eval o X.env) = eval o X.env := by rfl)
    (hfew : ((backTo cpos (starEach (e :: es) X.env)).all (fun x => !x.1) && (backToKw cpos (keywordEach [] X.env)).all (fun x => x.1.isSome)
      && decide ((e :: es).length + ([] : List Keyword).length + (if ([] : List Keyword).isEmpty then 0 else 1) < 30)) = true := by rfl)
    (hline : (apos.endLine == cpos.line) = true := by rfl) (hs : starEach (e :: es) X.env = (false, eval e X.env) :: starEach es X.env := by rfl) (hplain : (backTo cpos (starEach es X.env)).any (·.1) = false := by rfl) :
    PE X (.Call (.Attribute o name apos) (e :: es) [] cpos) (tE T E (cM F co cs)) :=
  PE.imp (pe_bm PySem.F.plainAttrs_list slot hty hm ho ha hbase hfew hline hs hplain) fun σ H Q q => by
    obtain ⟨ι, A, ρ, at0, p⟩ := q
    refine ⟨ι, A, ρ, at0, ?_⟩
    unfold cM at p
    cases e1 : co ρ A with
    | bad => rw [e1] at p; exact p
    | exc k A' => rw [e1] at p; exact p
    | ok d A' =>
      rw [e1] at p
      intro ι1 H1 v fp n rp f
      simp only [Res.bind] at p
      split at p
      · exact p.elim
      · rename_i xs ex
        obtain ⟨c, vs, g, e2, h1, h2, h3⟩ := seqL_ok n.wd rp ex
        cases e2
        rw [hK] at h1
        refine ⟨.inl ⟨rfl, vs, h1⟩, ι1, A', ρ, at0.next n, ?_⟩
        cases e3 : cs ρ A' with
        | bad => rw [e3] at p; exact p
        | exc k A2 => rw [e3] at p; exact fun ι' H' m => p ι' H' (n.trans m)
        | ok ds A2 =>
          rw [e3] at p
          intro ι2 H2 ws fq m rq g
          have hd := Rp.dom d _ fp rp
          obtain ⟨rp2, f2⟩ := Rps.next (H := H) n.wd m (Rps.one rp) f hd
          obtain ⟨v', ev, rp2⟩ := rp2.one_inv
          cases ev
          obtain ⟨x', xs', ex, z⟩ := hf ρ.b ι A H ι2 A2 H2 _ _ _ Q E at0.wd at0.bl (n.trans m) (Rps.cons rp2 rq) (f2.app g n.ext hd) p
          cases ex
          exact z
theorem ge_m0 {X : Cx} {T : Tb} {E : XE} {F : FB} {o : Expr} {co : CE} {name : Str} {apos cpos : Pos} {id : String} {r : V → List V → Hp → VK → Prop} (hK : T.K = X.K) (slot : Slot "list" name id) (hty : typeOf (.builtin id) = pure (.type "method_descriptor")) (hm : MtR X id r) (hf : SF T (rM r) F)
    (ho : PE X o (tE T E co)) (hbase : attributeBase o name X.env (eval o X.env) = eval o X.env := by rfl) (hline : (apos.endLine == cpos.line) = true := by rfl) :
    PE X (.Call (.Attribute o name apos) [] [] cpos) (tE T E (cM0 F co)) :=
  PE.imp (pe_bm0 PySem.F.plainAttrs_list slot hty hm ho hbase hline) fun σ H Q q => by
    obtain ⟨ι, A, ρ, at0, p⟩ := q
    refine ⟨ι, A, ρ, at0, ?_⟩
    unfold cM0 at p
    cases e1 : co ρ A with
    | bad => rw [e1] at p; exact p
    | exc k A' => rw [e1] at p; exact p
    | ok d A' =>
      rw [e1] at p
      intro ι1 H1 v fp n rp f
      simp only [Res.bind] at p
      split at p
      · exact p.elim
      · rename_i xs ex
        obtain ⟨c, vs, g, e2, h1, h2, h3⟩ := seqL_ok n.wd rp ex
        cases e2
        rw [hK] at h1
        refine ⟨.inl ⟨rfl, vs, h1⟩, ?_⟩
        obtain ⟨x', xs', ex, z⟩ := hf ρ.b ι A H ι1 A' H1 _ _ _ Q E at0.wd at0.bl n (Rps.one rp) f p
        cases ex
        exact z
/-- what may be put into a cell -/
def mayPut (b l : Nat) (d : Vl) : Bool := decide (b ≤ l) || lt l d
def fAppend : FB := fun b ds A => match ds with
  | [.loc l, y] => match (box y A).2[l]? with
    | some (.lst, xs) => if xs.length < 100000 ∧ mayPut b l (box y A).1 = true then .ok .non ((box y A).2.set l (.lst, xs ++ [(box y A).1])) else .bad
    | _ => .bad
  | _ => .bad
theorem sf_append {T : Tb} : SF T (rM rAppend) fAppend := by
  intro b ι A H ι1 A1 H1 vs ds fp Q E w hb n r f p
  unfold fAppend at p
  split at p
  · rename_i l y
    obtain ⟨v, u, f1, f2, rfl, rfl, q1, q2⟩ := r.two_inv
    cases q1 with
    | @loc _ a hl =>
      rw [List.nil_append] at f
      split at p
      · rename_i xs ex
        split at p
        · rename_i hc
          have hb1 : b ≤ A1.length := Nat.le_trans hb (n.le w)
          obtain ⟨n2, rp2, ey, eA⟩ := n.boxed1 hb1 q2 f
          have ha : (ι1 ++ f2)[l]? = some a := by
            rw [List.getElem?_append_left (List.getElem?_eq_some_iff.mp hl).1]; exact hl
          obtain ⟨o, us, z1, z2, z3⟩ := n2.wd.cel l _ xs a ex ha
          rw [show o = HO.lst us from z2] at z1
          refine ⟨_, _, rfl, a, us, u, rfl, rfl, z1, by rw [z3.len]; exact size_lt hc.1, ?_⟩
          have n3 := n2.store (k' := .lst) (xs' := xs ++ [(box y A1).1]) (o' := .lst (us ++ [u])) (vs' := us ++ [u]) ex ha rfl (by
            have := z3.append (Rps.one rp2)
            exact this) (fun m hm hmb hx => by
            rw [lts_append, hx]
            have hmp := hc.2
            unfold mayPut at hmp
            rw [Bool.or_eq_true] at hmp
            rcases hmp with q | q
            · have := of_decide_eq_true q
              omega
            · simp [lts, lt_mono (Nat.le_of_lt hm) _ q])
          exact p _ _ _ [] n3 .non .nil
        · exact p.elim
      · exact p.elim
  · exact p.elim

/-! ### defs and calls -/
abbrev Fn := List Vl → AH → Res Vl
def fin (n : Nat) : SR → Res Vl
  | .nx _ A => gc n .non A
  | .rt d A => gc n d A
  | .exc c A => .exc c (A.take n)
  | .bad => .bad
def mkFn (k : Nat) (body : CS) : Fn := fun ds A => fin A.length (body ⟨A.length, ds.map some ++ List.replicate (k - ds.length) none⟩ A)
def back (n : Nat) : Res Vl → Res Vl
  | .ok d A => gc n d A
  | .exc c A => .exc c (A.take n)
  | .bad => .bad
def callF (f : Fn) (ds : List Vl) (A : AH) : Res Vl := back A.length (f (boxs ds A).1 (boxs ds A).2)
def cCall (f : Fn) (cs : CA) : CE := fun ρ A => (cs ρ A).bind fun ds A1 => callF f ds A1
def spF (T : Tb) (f : Fn) (np : Nat) : Sp := fun vs H Q E => vs.length = np ∧ ∃ ι A ds, Wd T ι A H ∧ Rps T ι H vs ds [] ∧ Po T A.length ι A H (f ds A) Q fun c H' => E (.ref (T.C c)) none H'
/-- without exceptions -/
def spF0 (T : Tb) (f : Fn) (np : Nat) : Sp := fun vs H Q _ => spF T f np vs H Q fun _ _ _ => False
theorem callF_ok {T : Tb} {f : Fn} {np b : Nat} {ι0 ι1 : List Addr} {A0 A1 : AH} {H0 H1 : Hp} {ds : List Vl} {vs : List V} {fp : List Addr} {Q : VK} {E : XE} {EX : XK} (w0 : Wd T ι0 A0 H0) (hb : b ≤ A0.length) (n : Nx T b ι0 A0 H0 ι1 A1 H1) (r : Rps T ι1 H1 vs ds fp) (fr : Fr H0 ι1 fp)
    (hE : ∀ c H, E c H → EX (.ref (T.C c)) none H) (hl : vs.length = np) (p : Po T b ι0 A0 H0 (callF f ds A1) Q E) : spF T f np vs H1 Q EX := by
  have hb1 : b ≤ A1.length := Nat.le_trans hb (n.le w0)
  obtain ⟨n2, r2, ex, e2⟩ := n.boxed hb1 r fr
  refine ⟨hl, ι1 ++ fp, (boxs ds A1).2, (boxs ds A1).1, n2.wd, r2, ?_⟩
  unfold callF at p
  have hlen : A1.length ≤ (boxs ds A1).2.length := by rw [e2, List.length_append]; omega
  have cl2 : CL A1.length (boxs ds A1).2 := n.wd.cl.pre fun j hj => by rw [e2, List.getElem?_append_left hj]
  cases e : f (boxs ds A1).1 (boxs ds A1).2 with
  | bad => rw [e] at p; exact p
  | exc c A3 =>
    rw [e] at p
    intro ι3 H3 m
    have n3 : Nx T b ι0 A0 H0 ι3 A3 H3 := ⟨m.wd, n2.ext.trans m.ext, fun k hk z => m.cl k (by omega) (n2.cl k hk z)⟩
    exact hE c H3 (p _ _ (n3.cut w0 hb1 (n.le w0) (m.cl _ hlen cl2)))
  | ok d A3 =>
    rw [e] at p
    intro ι3 H3 v fq m rv g
    have n3 : Nx T b ι0 A0 H0 ι3 A3 H3 := ⟨m.wd, n2.ext.trans m.ext, fun k hk z => m.cl k (by omega) (n2.cl k hk z)⟩
    obtain ⟨d2, A4, ι4, fz, eg, n4, r4, f4⟩ := gc_ok w0 n3 hb1 (n.le w0) (m.cl _ hlen cl2) rv (g.back n2.ext)
    have p : Po T b ι0 A0 H0 (gc A1.length d A3) Q E := p
    rw [eg] at p
    exact p ι4 H3 v fz n4 r4 f4
theorem Rps.leng {T : Tb} {ι : List Addr} {H : Hp} {ds : List Vl} {vs : List V} {fp : List Addr} (r : Rps T ι H vs ds fp) : vs.length = ds.length := r.len
/-- the arguments' number, by the code -/
def argN (k : Nat) (cs : CA) : Prop := ∀ ρ A ds A', cs ρ A = .ok ds A' → ds.length = k
theorem argN_nil : argN 0 cNil := fun _ _ _ _ e => by cases e; rfl
theorem argN_cons {k : Nat} {c : CE} {cs : CA} (h : argN k cs) : argN (k + 1) (cCons c cs) := fun ρ A ds A' e => by
  unfold cCons at e
  cases e1 : c ρ A with
  | bad => rw [e1] at e; cases e
  | exc _ _ => rw [e1] at e; cases e
  | ok d A1 =>
    rw [e1] at e
    simp only [Res.bind] at e
    cases e2 : cs ρ A1 with
    | bad => rw [e2] at e; cases e
    | exc _ _ => rw [e2] at e; cases e
    | ok ds A2 =>
      rw [e2] at e
      cases e
      simp [h ρ A1 ds _ e2]
section
variable {X : Cx} {T : Tb} {E : XE} {EX : XK} {CX : CXT} {k : Nat} {fa : Addr} {fd : FuncData} {ps : List Str} {fn : Fn} {sp : Sp} {x : Str} {e : Expr} {es : List Expr} {cs : CA} {p pos : Pos}
theorem ge_call (F : FnOk X.prog X.w X.K X.mg X.base CX k fa fd ps sp) (hsp : ∀ vs H Q, spF T fn ps.length vs H Q EX → sp vs H Q EX) (hE : ∀ c H, E c H → EX (.ref (T.C c)) none H) (hn : argN ps.length cs) (hr : Room k X.A) (hg : Gl X x) (hm : X.mg x = some (.ref fa)) (hk : PySem.W.keepIn X.K (.ref fa) = true) (hb : Binds X.K fd ps []) (hx : Passes CX X EX)
    (ha : PA X (e :: es) (tA T E cs)) (hdb : (x == ("__debug__" : Str)) = false := by decide) (he : starEach (e :: es) X.env = (false, eval e X.env) :: starEach es X.env := by rfl) (hpl : (backTo pos (starEach es X.env)).any (·.1) = false := by rfl) :
    PE X (.Call (.Name x p) (e :: es) [] pos) (tE T E (cCall fn cs)) :=
  PE.imp (pe_call F hr hg hm hk hb .nil hx ha hdb he hpl) fun σ H Q q => by
    obtain ⟨ι, A, ρ, at0, p⟩ := q
    refine ⟨ι, A, ρ, at0, ?_⟩
    unfold cCall at p
    cases e1 : cs ρ A with
    | bad => rw [e1] at p; exact p
    | exc k A' => rw [e1] at p; exact p
    | ok ds A' =>
      rw [e1] at p
      intro ι1 H1 vs fp n rp f
      rw [List.append_nil]
      exact hsp _ _ _ (callF_ok at0.wd at0.bl n rp f hE (by rw [rp.len]; exact hn ρ A ds A' e1) p)
theorem ge_call0 (F : FnOk X.prog X.w X.K X.mg X.base CX k fa fd ps sp) (hsp : ∀ vs H Q, spF T fn ps.length vs H Q EX → sp vs H Q EX) (hE : ∀ c H, E c H → EX (.ref (T.C c)) none H) (hn : ps = []) (hr : Room k X.A) (hg : Gl X x) (hm : X.mg x = some (.ref fa)) (hk : PySem.W.keepIn X.K (.ref fa) = true) (hb : Binds X.K fd ps []) (hx : Passes CX X EX)
    (hdb : (x == ("__debug__" : Str)) = false := by decide) : PE X (.Call (.Name x p) [] [] pos) (tE T E (cCall fn cNil)) :=
  PE.imp (pe_call0 F hr hg hm hk hb .nil hx hdb) fun σ H Q q => by
    obtain ⟨ι, A, ρ, at0, p⟩ := q
    subst hn
    exact hsp _ _ _ (callF_ok (T := T) (f := fn) (np := 0) (ds := []) (vs := []) at0.wd at0.bl (.refl at0.wd) .nil .nil hE rfl p)
end
/-- a def's body read at its start -/
theorem fn_start {T : Tb} {E : XE} {EX : XK} {N : List Str} {np : Nat} {code : CS} {vs : List V} {H : Hp} {Q : VK} (h : spF T (mkFn N.length code) np vs H Q EX) (hE : ∀ c H, EX (.ref (T.C c)) none H → E c H) :
    tS T E code { nx := fun _ H' => Q .non H', rt := Q } (L2.start N vs) H := by
  obtain ⟨hl, ι, A, ds, w, r, p⟩ := h
  have hlen := r.len
  refine ⟨ι, A, ⟨A.length, ds.map some ++ List.replicate (N.length - ds.length) none⟩, ⟨w, ⟨?_, fun i d hd => ?_⟩, Nat.le_refl _⟩, ?_⟩
  · unfold L2.start
    simp [hlen]
  · have hi : i < ds.length := by
      apply Classical.byContradiction
      intro hi
      rw [List.getElem?_append_right (by simpa using hi), List.getElem?_replicate] at hd
      split at hd <;> cases hd
    rw [List.getElem?_append_left (by simpa using hi), List.getElem?_map] at hd
    cases hq : ds[i]? with
    | none => rw [hq] at hd; cases hd
    | some d' =>
      rw [hq] at hd
      cases hd
      obtain ⟨v, fq, q1, q2, q3⟩ := r.get hq
      have : fq = [] := by simpa using q3
      subst this
      refine ⟨v, ?_, q2⟩
      unfold L2.start
      rw [List.getElem?_append_left (by simp [hlen, hi]), List.getElem?_map, q1]; rfl
  · unfold mkFn at p
    cases e : code ⟨A.length, ds.map some ++ List.replicate (N.length - ds.length) none⟩ A with
    | bad => rw [e] at p; exact p
    | exc c A' =>
      rw [e] at p
      exact fun ι' H' n => hE c H' (p _ _ (n.cut w (Nat.le_refl _) (Nat.le_refl _) (n.cl _ (Nat.le_refl _) w.cl)))
    | rt d A' =>
      rw [e] at p
      intro ι' H' v fp n rv f
      obtain ⟨d2, A4, ι4, fz, eg, n4, r4, f4⟩ := gc_ok w n (Nat.le_refl _) (Nat.le_refl _) (n.cl _ (Nat.le_refl _) w.cl) rv f
      have p : Po T A.length ι A H (gc A.length d A') Q _ := p
      rw [eg] at p
      exact p ι4 H' v fz n4 r4 f4
    | nx s A' =>
      rw [e] at p
      intro ι' H' σ' n _
      obtain ⟨d2, A4, ι4, fz, eg, n4, r4, f4⟩ := gc_ok w n (Nat.le_refl _) (Nat.le_refl _) (n.cl _ (Nat.le_refl _) w.cl) .non .nil
      have p : Po T A.length ι A H (gc A.length .non A') Q _ := p
      rw [eg] at p
      exact p ι4 H' .non fz n4 r4 f4
end Ab

set_option Elab.async false
set_option linter.all false
set_option maxRecDepth 100000
set_option maxHeartbeats 1000000
set_option autoImplicit false
/-! Ab7: targets, what is walked, comprehensions, statements, loops. -/
namespace Ab
open PySem PySem.Spec PyProof.Rows L2

/-! ### targets -/
inductive Tgt where
  | nm (i : Nat) | tp (ts : List Tgt)
mutual
def put : Tgt → Vl → List (Option Vl) → Option (List (Option Vl))
  | .nm i, d, s => some (s.set i (some d))
  | .tp ts, d, s => match d with
    | .tup xs => puts ts xs s
    | _ => none
def puts : List Tgt → List Vl → List (Option Vl) → Option (List (Option Vl))
  | [], [], s => some s
  | t :: ts, d :: ds, s => match put t d s with
    | none => none
    | some s1 => puts ts ds s1
  | _, _, _ => none
end
mutual
def den (K : PySem.W.Frag) : Tgt → TG
  | .nm i => gName i
  | .tp ts => gTup K ts.length (dens K ts)
def dens (K : PySem.W.Frag) : List Tgt → TGs
  | [] => gNil
  | t :: ts => gCons (den K t) (dens K ts)
end
mutual
def slots : Tgt → List Nat
  | .nm i => [i]
  | .tp ts => slotss ts
def slotss : List Tgt → List Nat
  | [] => []
  | t :: ts => slots t ++ slotss ts
end
theorem wipe_set {σ : L2.St} {i : Nat} {x : Option V} : ∀ {vs : List Nat}, i ∈ vs → wipe (σ.set i x) vs = wipe σ vs
  | [], h => by cases h
  | v :: vs, h => by
    unfold wipe
    by_cases hv : i ∈ vs
    · rw [wipe_set hv]
    · have e : i = v := by
        rcases List.mem_cons.mp h with z | z
        · exact z
        · exact absurd z hv
      subst e
      have key : ∀ (us : List Nat), i ∉ us → (wipe (σ.set i x) us) = (wipe σ us).set i x := by
        intro us
        induction us with
        | nil => intro _; rfl
        | cons u us ih =>
          intro hu
          simp only [List.mem_cons, not_or] at hu
          unfold wipe
          rw [ih hu.2, List.set_comm _ _ hu.1]
      rw [key vs hv, List.set_set]
section
variable {T : Tb} {ι : List Addr} {H : Hp} {σ : L2.St}
theorem Er.set {s : List (Option Vl)} {i : Nat} {v : V} {d : Vl} (e : Er T ι H σ s) (r : Rp T ι H v d []) : Er T ι H (σ.set i (some v)) (s.set i (some d)) := by
  refine ⟨by rw [List.length_set, List.length_set]; exact e.1, fun j d' h => ?_⟩
  by_cases hj : i = j
  · subst hj
    by_cases hl : i < s.length
    · rw [List.getElem?_set_self hl] at h
      cases h
      exact ⟨v, by rw [List.getElem?_set_self (by rw [e.1]; exact hl)], r⟩
    · rw [List.getElem?_eq_none (by simpa using hl)] at h; cases h
  · rw [List.getElem?_set_ne hj] at h
    obtain ⟨v', h1, h2⟩ := e.2 j d' h
    exact ⟨v', by rw [List.getElem?_set_ne hj]; exact h1, h2⟩
mutual
theorem den_ok : ∀ (t : Tgt) (d : Vl) (v : V) (s s' : List (Option Vl)) (σ : L2.St) (Q : L2.St → Hp → Prop), Er T ι H σ s → Rp T ι H v d [] → put t d s = some s' →
    (∀ σ', Er T ι H σ' s' → (∀ vs, (∀ i ∈ slots t, i ∈ vs) → wipe σ' vs = wipe σ vs) → Q σ' H) → den T.K t v σ H Q
  | .nm i, d, v, s, s', σ, Q, e, r, hp, k => by
    rw [put] at hp
    cases hp
    exact k _ (e.set r) fun vs h => wipe_set (h i (by simp [slots]))
  | .tp ts, d, v, s, s', σ, Q, e, r, hp, k => by
    cases d with
    | tup ys =>
      rw [put] at hp
      cases r with
      | @tup a vs xs _ h1 h2 =>
        obtain ⟨hl, z⟩ := dens_ok ts ys vs s s' σ Q e h2 hp (fun σ' e' h' => k σ' e' fun vs hv => h' vs (by simpa [slots] using hv))
        exact ⟨a, vs, rfl, h1, by rw [h2.len, hl], z⟩
    | _ => simp [put] at hp
theorem dens_ok : ∀ (ts : List Tgt) (ds : List Vl) (vs : List V) (s s' : List (Option Vl)) (σ : L2.St) (Q : L2.St → Hp → Prop), Er T ι H σ s → Rps T ι H vs ds [] → puts ts ds s = some s' →
    (∀ σ', Er T ι H σ' s' → (∀ vs, (∀ i ∈ slotss ts, i ∈ vs) → wipe σ' vs = wipe σ vs) → Q σ' H) → ds.length = ts.length ∧ dens T.K ts vs σ H Q
  | [], [], _, s, s', σ, Q, e, r, hp, k => by
    rw [puts] at hp
    cases hp
    cases r
    exact ⟨rfl, rfl, k σ e fun _ _ => rfl⟩
  | t :: ts, d :: ds, _, s, s', σ, Q, e, r, hp, k => by
    rw [puts] at hp
    split at hp
    · cases hp
    · rename_i s1 e1
      generalize hz : ([] : List Addr) = fz at r
      cases r with
      | @cons v _ fp vs _ fq h1 h2 =>
        have hz2 := List.append_eq_nil_iff.mp hz.symm
        obtain ⟨rfl, rfl⟩ := hz2
        have hl : ds.length = ts.length ∧ den T.K t v σ H (fun σ' H' => dens T.K ts vs σ' H' Q) := by
          have aux : ∀ σ1, Er T ι H σ1 s1 → (∀ us, (∀ i ∈ slots t, i ∈ us) → wipe σ1 us = wipe σ us) → ds.length = ts.length ∧ dens T.K ts vs σ1 H Q := fun σ1 er1 w1 =>
            dens_ok ts ds vs s1 s' σ1 Q er1 h2 hp fun σ' e' h' => k σ' e' fun us hu => (h' us fun i hi => hu i (by simp [slotss, hi])).trans (w1 us fun i hi => hu i (by simp [slotss, hi]))
          have z : den T.K t v σ H (fun σ' H' => ds.length = ts.length ∧ dens T.K ts vs σ' H' Q) := den_ok t d v s s1 σ _ e h1 e1 fun σ' e' h' => aux σ' e' h'
          refine ⟨?_, den_ok t d v s s1 σ _ e h1 e1 fun σ' e' h' => (aux σ' e' h').2⟩
          exact puts_len ts ds s1 s' hp
        exact ⟨by simp [hl.1], v, vs, rfl, hl.2⟩
  | [], _ :: _, _, _, _, _, _, _, _, hp, _ => by rw [puts] at hp <;> first | cases hp | (intros; simp_all)
  | _ :: _, [], _, _, _, _, _, _, _, hp, _ => by rw [puts] at hp <;> first | cases hp | (intros; simp_all)
theorem puts_len : ∀ (ts : List Tgt) (ds : List Vl) (s s' : List (Option Vl)), puts ts ds s = some s' → ds.length = ts.length
  | [], [], _, _, _ => rfl
  | t :: ts, d :: ds, s, s', h => by
    rw [puts] at h
    split at h
    · cases h
    · simp [puts_len ts ds _ s' h]
  | [], _ :: _, _, _, h => by rw [puts] at h <;> first | cases h | (intros; simp_all)
  | _ :: _, [], _, _, h => by rw [puts] at h <;> first | cases h | (intros; simp_all)
end
end

/-! ### what is walked -/
abbrev Wch := List (Nat × List Vl)
abbrev CI := Ev → AH → Res (List Vl × Wch)
instance : Inhabited Vl := ⟨.non⟩
mutual
def eqb : Vl → Vl → Bool
  | .non, .non => true
  | .bl a, .bl b => a == b
  | .int a, .int b => a == b
  | .str a, .str b => a == b
  | .tup a, .tup b => eqbs a b
  | .rol a, .rol b => eqbs a b
  | .new k a, .new j b => decide (k = j) && eqbs a b
  | .loc a, .loc b => a == b
  | .fn a, .fn b => a == b
  | _, _ => false
def eqbs : List Vl → List Vl → Bool
  | [], [] => true
  | x :: xs, y :: ys => eqb x y && eqbs xs ys
  | _, _ => false
end
mutual
theorem eqb_eq : ∀ (a b : Vl), eqb a b = true → a = b
  | .non, b, h => by cases b <;> first | rfl | (simp [eqb] at h)
  | .bl a, b, h => by cases b <;> first | (simp [eqb] at h; subst h; rfl) | (simp [eqb] at h)
  | .int a, b, h => by cases b <;> first | (simp [eqb] at h; subst h; rfl) | (simp [eqb] at h)
  | .str a, b, h => by cases b <;> first | (simp [eqb] at h; subst h; rfl) | (simp [eqb] at h)
  | .loc a, b, h => by cases b <;> first | (simp [eqb] at h; subst h; rfl) | (simp [eqb] at h)
  | .fn a, b, h => by cases b <;> first | (simp [eqb] at h; subst h; rfl) | (simp [eqb] at h)
  | .tup a, b, h => by
    cases b with
    | tup b => rw [eqb] at h; rw [eqbs_eq a b h]
    | _ => simp [eqb] at h
  | .rol a, b, h => by
    cases b with
    | rol b => rw [eqb] at h; rw [eqbs_eq a b h]
    | _ => simp [eqb] at h
  | .new k a, b, h => by
    cases b with
    | new j b =>
      rw [eqb, Bool.and_eq_true] at h
      rw [eqbs_eq a b h.2, of_decide_eq_true h.1]
    | _ => simp [eqb] at h
theorem eqbs_eq : ∀ (a b : List Vl), eqbs a b = true → a = b
  | [], [], _ => rfl
  | x :: xs, y :: ys, h => by
    rw [eqbs, Bool.and_eq_true] at h
    rw [eqb_eq x y h.1, eqbs_eq xs ys h.2]
  | [], _ :: _, h => by simp [eqbs] at h
  | _ :: _, [], h => by simp [eqbs] at h
end
mutual
theorem eqb_refl : ∀ a : Vl, eqb a a = true
  | .non => rfl
  | .bl a => by simp [eqb]
  | .int a => by simp [eqb]
  | .str a => by simp [eqb]
  | .loc a => by simp [eqb]
  | .fn a => by simp [eqb]
  | .tup a => by rw [eqb]; exact eqbs_refl a
  | .rol a => by rw [eqb]; exact eqbs_refl a
  | .new k a => by rw [eqb, eqbs_refl a]; simp
theorem eqbs_refl : ∀ a : List Vl, eqbs a a = true
  | [] => rfl
  | x :: xs => by rw [eqbs, eqb_refl x, eqbs_refl xs]; rfl
end
def seen1 (A : AH) (p : Nat × List Vl) : Bool := match A[p.1]? with
  | some (.lst, xs) => eqbs xs p.2
  | _ => false
def seen (w : Wch) (A : AH) : Bool := w.all (seen1 A)
theorem seen1_iff {A : AH} {p : Nat × List Vl} : seen1 A p = true ↔ A[p.1]? = some (.lst, p.2) := by
  unfold seen1
  constructor
  · intro h
    split at h
    · rename_i xs e
      rw [e, eqbs_eq xs p.2 h]
    · cases h
  · intro h
    rw [h]
    exact eqbs_refl _
theorem seen_nil {A : AH} : seen [] A = true := rfl
def JOk (T : Tb) (b : Nat) (J : It) (ι : List Addr) (A : AH) (H : Hp) (items : List Vl) (w : Wch) : Prop := ∀ ι' A' H', Nx T b ι A H ι' A' H' → seen w A' = true →
  (∀ (i : Nat) (d : Vl), items[i]? = some d → J.go i H' ∧ ∀ x H'', J.yld i H' x H'' → Rp T ι' H'' x d [] ∧ Nx T b ι' A' H' ι' A' H'') ∧ ∀ i : Nat, items.length ≤ i → J.stop i H'
def PoI (T : Tb) (b : Nat) (ι : List Addr) (A : AH) (H : Hp) (r : Res (List Vl × Wch)) (R : It → Hp → Prop) (E : XE) : Prop := match r with
  | .ok p A' => ∀ ι' H' J, Nx T b ι A H ι' A' H' → JOk T b J ι' A' H' p.1 p.2 → seen p.2 A' = true → R J H'
  | .exc c A' => ∀ ι' H', Nx T b ι A H ι' A' H' → E c H'
  | .bad => False
def tI (T : Tb) (E : XE) (c : CI) : TI := fun σ H R => ∃ ι A ρ, At T σ H ι A ρ ∧ PoI T ρ.b ι A H (c ρ A) R E
theorem PI.imp {X : Cx} {tg e : Expr} {t t' : TI} (h : PI X tg e t) (k : ∀ σ H Q, t' σ H Q → t σ H Q) : PI X tg e t' := ⟨fun pins s σ H R I q => h.run pins s σ H R I (k σ H R q)⟩
theorem PI.or {X : Cx} {tg e : Expr} {t t' : TI} (h : PI X tg e t) (h' : PI X tg e t') : PI X tg e (fun σ H R => t σ H R ∨ t' σ H R) := ⟨fun pins s σ H R I q => q.elim (h.run pins s σ H R I) (h'.run pins s σ H R I)⟩

/-- the items of a list that is walked -/
def walkL (x : Vl) (A : AH) : Res (List Vl × Wch) := match x with
  | .loc l => match A[l]? with
    | some (.lst, xs) => .ok (xs, [(l, xs)]) A
    | _ => .bad
  | .new .lst xs => .ok ((boxs xs A).1, []) (boxs xs A).2
  | .rol xs => .ok (xs, []) A
  | _ => .bad
section
variable {T : Tb} {ι ι1 : List Addr} {H H1 : Hp} {A A1 : AH} {b : Nat}
/-- a list at a, now and later -/
def LAt (T : Tb) (b : Nat) (a : Addr) (ι : List Addr) (A : AH) (H : Hp) (items : List Vl) (w : Wch) : Prop := ∀ ι' A' H', Nx T b ι A H ι' A' H' → seen w A' = true → ∃ vs, SqL T.K H' a vs ∧ Rps T ι' H' vs items []
theorem LAt.next {a : Addr} {items : List Vl} {w : Wch} (h : LAt T b a ι A H items w) (n : Nx T b ι A H ι1 A1 H1) : LAt T b a ι1 A1 H1 items w := fun ι' A' H' m s => h ι' A' H' (n.trans m) s
/-- a list at a as it stands now -/
inductive LSt (T : Tb) (ι : List Addr) (A : AH) (H : Hp) (F : List Addr) (a : Addr) (items : List Vl) : Wch → Prop
  | loc {l : Nat} (h1 : ι[l]? = some a) (h2 : A[l]? = some (.lst, items)) : LSt T ι A H F a items [(l, items)]
  | new {vs : List V} (h1 : H a = some (.lst vs)) (h2 : a ∉ ι) (h3 : Rps T ι H vs items []) (h4 : a ∈ F) : LSt T ι A H F a items []
  | rol {vs : List V} (h1 : ROk T H a vs) (h3 : Rps T ι H vs items []) : LSt T ι A H F a items []
theorem LSt.more {a : Addr} {items : List Vl} {w : Wch} {fc F : List Addr} {ex : AH} (h : LSt T ι A H F a items w) (ha : ∀ x ∈ F, x ∉ fc) : LSt T (ι ++ fc) (A ++ ex) H F a items w := by
  cases h with
  | loc h1 h2 => exact .loc (by rw [List.getElem?_append_left (List.getElem?_eq_some_iff.mp h1).1]; exact h1) (by rw [List.getElem?_append_left (List.getElem?_eq_some_iff.mp h2).1]; exact h2)
  | new h1 h2 h3 h4 =>
    refine .new h1 (fun z => ?_) (Rps.app fc _ _ _ h3) h4
    rcases List.mem_append.mp z with z | z
    · exact h2 z
    · exact ha a h4 z
  | rol h1 h3 => exact .rol h1 (Rps.app fc _ _ _ h3)
theorem LSt.now {a : Addr} {items : List Vl} {w : Wch} {F : List Addr} (wd : Wd T ι A H) (h : LSt T ι A H F a items w) : seen w A = true ∧ ∃ vs, SqL T.K H a vs ∧ Rps T ι H vs items [] := by
  cases h with
  | loc h1 h2 =>
    obtain ⟨o, vs, q1, q2, q3⟩ := wd.cel _ _ _ _ h2 h1
    rw [show o = HO.lst vs from q2] at q1
    exact ⟨by simp [seen, seen1_iff, h2], vs, .inl (.inl q1), q3⟩
  | new h1 h2 h3 h4 => exact ⟨rfl, _, .inl (.inl h1), h3⟩
  | rol h1 h3 => exact ⟨rfl, _, h1.sq, h3⟩
theorem LSt.later {a : Addr} {items : List Vl} {w : Wch} {F : List Addr} (h : LSt T ι A H F a items w) : LAt T b a ι A H items w := fun ι' A' H' m hs => by
  cases h with
  | @loc l h1 h2 =>
    have hs2 : A'[l]? = some (Kd.lst, items) := by
      simp only [seen, List.all_cons, List.all_nil, Bool.and_true, seen1_iff] at hs
      exact hs
    obtain ⟨o, vs, q1, q2, q3⟩ := m.wd.cel _ _ _ _ hs2 (m.ext.at h1)
    rw [show o = HO.lst vs from q2] at q1
    exact ⟨vs, .inl (.inl q1), q3⟩
  | new h1 h2 h3 h4 => exact ⟨_, .inl (.inl (m.ext.keep a _ h1 (.inl h2))), Rps.mono m.ext _ _ _ h3 (by simp)⟩
  | rol h1 h3 => exact ⟨_, (m.ext.rok h1).sq, Rps.mono m.ext _ _ _ h3 (by simp)⟩
theorem walkL_ok {x : Vl} {v : V} {fp : List Addr} {items : List Vl} {w : Wch} {A2 : AH} (w0 : Wd T ι A H) (hb : b ≤ A.length) (n : Nx T b ι A H ι1 A1 H1) (r : Rp T ι1 H1 v x fp) (f : Fr H ι1 fp) (e : walkL x A1 = .ok (items, w) A2) :
    ∃ a fc ex, v = .ref a ∧ Nx T b ι A H (ι1 ++ fc) A2 H1 ∧ A2 = A1 ++ ex ∧ LSt T (ι1 ++ fc) A2 H1 fp a items w ∧ fc.Sublist fp := by
  cases x with
  | loc l =>
    simp only [walkL] at e
    split at e
    · rename_i xs ex
      cases e
      cases r with
      | @loc _ a hl =>
        refine ⟨a, [], [], rfl, by simpa using n, by simp, ?_, List.Sublist.refl _⟩
        rw [List.append_nil]
        exact .loc hl ex
    · cases e
  | new k xs =>
    cases k with
    | lst =>
      cases e
      cases r with
      | @new a _ o vs _ fc h1 h2 h3 =>
        rw [show o = HO.lst vs from h2] at h1
        have fsub : Fr H ι1 fc := f.sub (List.sublist_append_left _ _)
        obtain ⟨n2, r2, ex, e2⟩ := n.boxed (Nat.le_trans hb (n.le w0)) h3 fsub
        have hna : a ∉ ι1 ++ fc := fun z => by
          rcases List.mem_append.mp z with z | z
          · exact (f.2 a (by simp)).2 z
          · have := f.1
            rw [List.nodup_append] at this
            exact this.2.2 a z a (by simp) rfl
        exact ⟨a, fc, ex, rfl, n2, e2, .new h1 hna r2 (by simp), List.sublist_append_left _ _⟩
    | _ => cases e
  | rol xs =>
    cases e
    cases r with
    | @rol a vs _ h1 h2 =>
      refine ⟨a, [], [], rfl, by simpa using n, by simp, ?_, List.Sublist.refl _⟩
      rw [List.append_nil]
      exact .rol h1 h2
  | _ => cases e
theorem jok_list {a : Addr} {items : List Vl} {w : Wch} (h : LAt T b a ι A H items w) : JOk T b (Itl T.K a) ι A H items w := fun ι' A' H' m hs => by
  obtain ⟨vs, h1, h2⟩ := h ι' A' H' m hs
  refine ⟨fun i d hd => ?_, fun i hi => ⟨vs, h1, by rw [h2.len]; exact hi⟩⟩
  obtain ⟨x, fq, q1, q2, q3⟩ := h2.get hd
  have : fq = [] := by simpa using q3
  subst this
  refine ⟨⟨vs, x, h1, q1⟩, fun y H'' hy => ?_⟩
  obtain ⟨rfl, hy⟩ := hy
  have := hy vs h1
  rw [q1] at this
  cases this
  exact ⟨q2, .refl m.wd⟩
def enumL : Nat → List Vl → List Vl
  | _, [] => []
  | k, x :: r => .tup [.int (k : Nat), x] :: enumL (k + 1) r
theorem enumL_get : ∀ (k : Nat) (xs : List Vl) (i : Nat), (enumL k xs)[i]? = (xs[i]?).map fun x => .tup [.int ((k + i : Nat) : Int), x]
  | k, [], i => by simp [enumL]
  | k, x :: r, 0 => by simp [enumL]
  | k, x :: r, i + 1 => by
    simp only [enumL, List.getElem?_cons_succ, enumL_get (k + 1) r i]
    rw [show k + 1 + i = k + (i + 1) by omega]
theorem enumL_len : ∀ (k : Nat) (xs : List Vl), (enumL k xs).length = xs.length
  | _, [] => rfl
  | k, x :: r => by simp [enumL, enumL_len]
theorem jok_enum {a : Addr} {items : List Vl} {w : Wch} (h : LAt T b a ι A H items w) : JOk T b (Ite T.K a) ι A H (enumL 0 items) w := fun ι' A' H' m hs => by
  obtain ⟨vs, h1, h2⟩ := h ι' A' H' m hs
  refine ⟨fun i d hd => ?_, fun i hi => ⟨vs, h1, by rw [h2.len]; rw [enumL_len] at hi; exact hi⟩⟩
  rw [enumL_get] at hd
  cases hq : items[i]? with
  | none => rw [hq] at hd; cases hd
  | some d0 =>
    rw [hq] at hd
    cases hd
    obtain ⟨x, fq, q1, q2, q3⟩ := h2.get hq
    have : fq = [] := by simpa using q3
    subst this
    refine ⟨⟨vs, x, h1, q1⟩, fun y H'' hy => ?_⟩
    obtain ⟨t, x', rfl, ht, rfl, hy⟩ := hy
    have e := hy vs h1
    rw [q1] at e
    cases e
    have ex : Ext ι' H' ι' (L2.upd H' t (.tup [.int (i : Nat), x])) := Ext.refl.upd ht
    refine ⟨?_, (Nx.refl m.wd).upd ht⟩
    refine .tup (.inl (.inl upd_same)) ?_
    rw [Nat.zero_add]
    exact .cons (fp := []) (fq := []) (.int _) (Rps.one (Rp.mono ex _ _ _ q2 (by simp)))
theorem jok_zip {a c : Addr} {xs ys : List Vl} {w u : Wch} (h : LAt T b a ι A H xs w) (k : LAt T b c ι A H ys u) : JOk T b (Itz T.K a c) ι A H (List.zipWith (fun x y => .tup [x, y]) xs ys) (w ++ u) := fun ι' A' H' m hs => by
  have hs1 : seen w A' = true ∧ seen u A' = true := by
    unfold seen at hs ⊢
    rw [List.all_append, Bool.and_eq_true] at hs
    exact hs
  obtain ⟨vs, h1, h2⟩ := h ι' A' H' m hs1.1
  obtain ⟨us, k1, k2⟩ := k ι' A' H' m hs1.2
  refine ⟨fun i d hd => ?_, fun i hi => ⟨vs, us, h1, k1, ?_⟩⟩
  · rw [List.getElem?_zipWith] at hd
    cases hx : xs[i]? with
    | none => rw [hx] at hd; simp at hd
    | some x0 =>
      cases hy : ys[i]? with
      | none => rw [hx, hy] at hd; simp at hd
      | some y0 =>
        rw [hx, hy] at hd
        cases hd
        obtain ⟨x, fq, q1, q2, q3⟩ := h2.get hx
        obtain ⟨y, fr, p1, p2, p3⟩ := k2.get hy
        have : fq = [] := by simpa using q3
        subst this
        have : fr = [] := by simpa using p3
        subst this
        refine ⟨⟨vs, us, x, y, h1, k1, q1, p1⟩, fun z H'' hz => ?_⟩
        obtain ⟨t, x', y', rfl, ht, rfl, hz1, hz2⟩ := hz
        have e1 := hz1 vs h1
        have e2 := hz2 us k1
        rw [q1] at e1; rw [p1] at e2
        cases e1; cases e2
        have ex : Ext ι' H' ι' (L2.upd H' t (.tup [x, y])) := Ext.refl.upd ht
        exact ⟨.tup (.inl (.inl upd_same)) (.cons (fp := []) (fq := []) (Rp.mono ex _ _ _ q2 (by simp)) (Rps.one (Rp.mono ex _ _ _ p2 (by simp)))), (Nx.refl m.wd).upd ht⟩
  · rw [h2.len, k2.len]
    rw [List.length_zipWith] at hi
    omega
theorem rgL_get {i j : Int} {k : Nat} {d : Vl} (h : (rgL i j)[k]? = some d) : k < (j - i).toNat ∧ d = .int (i + (k : Nat)) := by
  unfold rgL at h
  rw [List.getElem?_map] at h
  cases hq : (List.range (j - i).toNat)[k]? with
  | none => rw [hq] at h; cases h
  | some k' =>
    rw [hq] at h
    cases h
    have hl := (List.getElem?_eq_some_iff.mp hq).1
    rw [List.getElem?_eq_getElem hl, List.getElem_range] at hq
    cases hq
    exact ⟨by simpa using hl, rfl⟩
theorem rgL_len (i j : Int) : (rgL i j).length = (j - i).toNat := by unfold rgL; simp
theorem jok_range {i j : Int} : JOk T b (Itr i (j - i).toNat) ι A H (rgL i j) [] := fun ι' A' H' m _ => by
  refine ⟨fun k d hd => ?_, fun k hk => by rw [rgL_len] at hk; exact hk⟩
  obtain ⟨h1, rfl⟩ := rgL_get hd
  refine ⟨h1, fun x H'' hy => ?_⟩
  obtain ⟨rfl, rfl⟩ := hy
  exact ⟨.int _, .refl m.wd⟩
theorem jok_tup {a : Addr} {vs : List V} {items : List Vl} (h1 : SqT T.K H a vs) (h2 : Rps T ι H vs items []) : JOk T b (Itt T.K a) ι A H items [] := fun ι' A' H' m _ => by
  have h1 : SqT T.K H' a vs := m.ext.sqT h1
  have h2 := Rps.mono m.ext _ _ _ h2 (by simp)
  refine ⟨fun i d hd => ?_, fun i hi => ⟨vs, h1, by rw [h2.len]; exact hi⟩⟩
  obtain ⟨x, fq, q1, q2, q3⟩ := h2.get hd
  have : fq = [] := by simpa using q3
  subst this
  refine ⟨⟨vs, x, h1, q1⟩, fun y H'' hy => ?_⟩
  obtain ⟨rfl, hy⟩ := hy
  have := hy vs h1
  rw [q1] at this
  cases this
  exact ⟨q2, .refl m.wd⟩
end
/-! code that is walked -/
def walkA (x : Vl) (A : AH) : Res (List Vl × Wch) := match x with
  | .tup xs => .ok ((boxs xs A).1, []) (boxs xs A).2
  | x => walkL x A
def cIt (c : CE) : CI := fun ρ A => (c ρ A).bind fun x A1 => walkA x A1
def cEn (c : CE) : CI := fun ρ A => (c ρ A).bind fun x A1 => (walkL x A1).bind fun p A2 => .ok (enumL 0 p.1, p.2) A2
def cZip (c d : CE) : CI := fun ρ A => (c ρ A).bind fun x A1 => (d ρ A1).bind fun y A2 => (walkL x A2).bind fun p A3 => (walkL y A3).bind fun q A4 => .ok (List.zipWith (fun x y => .tup [x, y]) p.1 q.1, p.2 ++ q.2) A4
def fRg (d e : Vl) (A : AH) : Res (List Vl × Wch) := match d, e with
  | .int i, .int j => if 0 ≤ i ∧ i ≤ 100000 ∧ -100000 ≤ j ∧ j ≤ 100000 then .ok (rgL i j, []) A else .bad
  | _, _ => .bad
def cRg1 (c : CE) : CI := fun ρ A => (c ρ A).bind fun d A1 => fRg (.int 0) d A1
def cRg2 (c e : CE) : CI := fun ρ A => (c ρ A).bind fun d A1 => (e ρ A1).bind fun x A2 => fRg d x A2
section
variable {X : Cx} {T : Tb} {E : XE} {tg a b : Expr} {ca cb : CE} {p pos tpos : Pos} {elts : List Expr} {kk : Nat}
theorem gi_it (hK : T.K = X.K) (ha : PE X a (tE T E ca)) : PI X tg a (tI T E (cIt ca)) :=
  PI.imp (PI.or (pi_list ha) (pi_tup ha)) fun σ H R q => by
    obtain ⟨ι, A, ρ, at0, p⟩ := q
    unfold cIt at p
    cases e : ca ρ A with
    | bad => rw [e] at p; exact False.elim p
    | exc k A' => rw [e] at p; exact .inl ⟨ι, A, ρ, at0, by rw [e]; exact p⟩
    | ok d A' =>
      rw [e] at p
      by_cases ht : ∃ xs, d = .tup xs
      · obtain ⟨xs, rfl⟩ := ht
        refine .inr ⟨ι, A, ρ, at0, ?_⟩
        rw [e]
        intro ι1 H1 v fp n r f
        cases r with
        | @tup c vs _ _ h1 h2 =>
          obtain ⟨n2, r2, ex, e2⟩ := n.boxed (Nat.le_trans at0.bl (n.le at0.wd)) h2 f
          refine ⟨c, rfl, ⟨vs, by rw [← hK]; exact h1⟩, ?_⟩
          have := p _ H1 (Itt T.K c) n2 (jok_tup h1 r2) rfl
          rw [hK] at this
          exact this
      · refine .inl ⟨ι, A, ρ, at0, ?_⟩
        rw [e]
        intro ι1 H1 v fp n r f
        have ew : walkA d A' = walkL d A' := by
          cases d with
          | tup xs => exact absurd ⟨xs, rfl⟩ ht
          | _ => rfl
        have p : PoI T ρ.b ι A H (walkA d A') R E := p
        rw [ew] at p
        cases eq : walkL d A' with
        | bad => rw [eq] at p; exact False.elim p
        | exc k A2 =>
          exfalso
          cases d with
          | loc l =>
            simp only [walkL] at eq
            split at eq <;> cases eq
          | new k xs => cases k <;> cases eq
          | _ => cases eq
        | ok w A2 =>
          rw [eq] at p
          obtain ⟨c, fc, ex, rfl, n2, _, hL, _⟩ := walkL_ok at0.wd at0.bl n r f (items := w.1) (w := w.2) (A2 := A2) eq
          obtain ⟨sn, vs, s1, s2⟩ := hL.now n2.wd
          refine ⟨c, rfl, ⟨vs, by rw [← hK]; exact s1⟩, ?_⟩
          have := p _ H1 (Itl T.K c) n2 (jok_list hL.later) sn
          rw [hK] at this
          exact this
theorem walkL_noexc {d : Vl} {A A2 : AH} {k : Nat} (h : walkL d A = .exc k A2) : False := by
  cases d with
  | loc l =>
    simp only [walkL] at h
    split at h <;> cases h
  | new k xs => cases k <;> cases h
  | _ => cases h
theorem gi_en (hK : T.K = X.K) (hg : Gl X "enumerate") (hm : X.mg "enumerate" = none) (ha : PE X a (tE T E ca)) (hs : starEach [a] X.env = [(false, eval a X.env)] := by rfl) : PI X (.Tuple elts kk tpos) (.Call (.Name "enumerate" p) [a] [] pos) (tI T E (cEn ca)) :=
  PI.imp (pi_enum hg hm (pa_cons ha pa_nil hs) hs) fun σ H R q => by
    obtain ⟨ι, A, ρ, at0, p⟩ := q
    refine ⟨ι, A, ρ, at0, ?_⟩
    unfold cEn at p
    cases e : ca ρ A with
    | bad => rw [e] at p; exact False.elim p
    | exc k A' => rw [e] at p; exact p
    | ok d A' =>
      rw [e] at p
      intro ι1 H1 v fp n r f
      have p : PoI T ρ.b ι A H ((walkL d A').bind fun p A2 => .ok (enumL 0 p.1, p.2) A2) R E := p
      cases eq : walkL d A' with
      | bad => rw [eq] at p; exact False.elim p
      | exc k A2 => exact (walkL_noexc eq).elim
      | ok w A2 =>
        rw [eq] at p
        obtain ⟨c, fc, ex, rfl, n2, _, hL, _⟩ := walkL_ok at0.wd at0.bl n r f (items := w.1) (w := w.2) (A2 := A2) eq
        obtain ⟨sn, vs, s1, s2⟩ := hL.now n2.wd
        refine ⟨c, vs, rfl, by rw [← hK]; exact s1, ?_⟩
        have := p _ H1 (Ite T.K c) n2 (jok_enum hL.later) sn
        rw [hK] at this
        exact this
theorem fRg_ok {d e : Vl} {A A2 : AH} {w : List Vl × Wch} (h : fRg d e A = .ok w A2) : ∃ i j, d = .int i ∧ e = .int j ∧ 0 ≤ i ∧ i ≤ 100000 ∧ -100000 ≤ j ∧ j ≤ 100000 ∧ w = (rgL i j, []) ∧ A2 = A := by
  unfold fRg at h
  split at h
  · split at h
    · rename_i hc
      cases h
      exact ⟨_, _, rfl, rfl, hc.1, hc.2.1, hc.2.2.1, hc.2.2.2, rfl, rfl⟩
    · cases h
  · cases h
theorem fRg_noexc {d e : Vl} {A A2 : AH} {k : Nat} (h : fRg d e A = .exc k A2) : False := by
  unfold fRg at h
  split at h
  · split at h <;> cases h
  · cases h
theorem gi_rg1 (hg : Gl X "range") (hm : X.mg "range" = none) (ha : PE X a (tE T E ca)) (hs : starEach [a] X.env = [(false, eval a X.env)] := by rfl) : PI X tg (.Call (.Name "range" p) [a] [] pos) (tI T E (cRg1 ca)) :=
  PI.imp (pi_range1 hg hm (pa_cons ha pa_nil hs) hs) fun σ H R q => by
    obtain ⟨ι, A, ρ, at0, p⟩ := q
    refine ⟨ι, A, ρ, at0, ?_⟩
    unfold cRg1 at p
    cases e : ca ρ A with
    | bad => rw [e] at p; exact False.elim p
    | exc k A' => rw [e] at p; exact p
    | ok d A' =>
      rw [e] at p
      intro ι1 H1 v fp n r f
      replace p : PoI T ρ.b ι A H (fRg (.int 0) d A') R E := p
      cases eq : fRg (.int 0) d A' with
      | bad => rw [eq] at p; exact False.elim p
      | exc k A2 => exact (fRg_noexc eq).elim
      | ok w A2 =>
        rw [eq] at p
        obtain ⟨i, j, e1, e2, h1, h2, h3, h4, rfl, rfl⟩ := fRg_ok eq
        cases e1
        subst e2
        cases r
        refine ⟨j, rfl, by omega, by omega, ?_⟩
        have := p ι1 H1 (Itr 0 (j - 0).toNat) n jok_range rfl
        rw [Int.sub_zero] at this
        exact this
theorem gi_rg2 (hg : Gl X "range") (hm : X.mg "range" = none) (ha : PE X a (tE T E ca)) (hb : PE X b (tE T E cb)) (hs : starEach [a, b] X.env = [(false, eval a X.env), (false, eval b X.env)] := by rfl) (hs2 : starEach [b] X.env = [(false, eval b X.env)] := by rfl) :
    PI X tg (.Call (.Name "range" p) [a, b] [] pos) (tI T E (cRg2 ca cb)) :=
  PI.imp (pi_range2 hg hm (pa_cons ha (pa_cons hb pa_nil hs2) (by rw [hs, hs2])) hs hs2) fun σ H R q => by
    obtain ⟨ι, A, ρ, at0, p⟩ := q
    refine ⟨ι, A, ρ, at0, ?_⟩
    unfold cRg2 at p
    cases e : ca ρ A with
    | bad => rw [e] at p; exact False.elim p
    | exc k A' => rw [e] at p; exact p
    | ok d A' =>
      rw [e] at p
      intro ι1 H1 v fp n r f
      refine ⟨ι1, A', ρ, at0.next n, ?_⟩
      have p : PoI T ρ.b ι A H ((cb ρ A').bind fun x A2 => fRg d x A2) R E := p
      cases e2 : cb ρ A' with
      | bad => rw [e2] at p; exact False.elim p
      | exc k A2 => rw [e2] at p; exact fun ι' H' m => p ι' H' (n.trans m)
      | ok d2 A2 =>
        rw [e2] at p
        intro ι2 H2 w fq n2 r2 f2
        replace p : PoI T ρ.b ι A H (fRg d d2 A2) R E := p
        cases eq : fRg d d2 A2 with
        | bad => rw [eq] at p; exact False.elim p
        | exc k A2 => exact (fRg_noexc eq).elim
        | ok w A3 =>
          rw [eq] at p
          obtain ⟨i, j, rfl, rfl, h1, h2, h3, h4, rfl, rfl⟩ := fRg_ok eq
          cases r
          cases r2
          exact ⟨i, j, rfl, ⟨by omega, by omega, by omega, by omega⟩, p ι2 H2 _ (n.trans n2) jok_range rfl⟩
theorem gi_zip (hK : T.K = X.K) (hg : Gl X "zip") (hm : X.mg "zip" = none) (ha : PE X a (tE T E ca)) (hb : PE X b (tE T E cb)) (hs : starEach [a, b] X.env = (false, eval a X.env) :: starEach [b] X.env := by rfl) (hs2 : starEach [b] X.env = (false, eval b X.env) :: starEach [] X.env := by rfl) (hpl : (backTo pos (starEach [b] X.env)).any (·.1) = false := by rfl) :
    PI X (.Tuple elts kk tpos) (.Call (.Name "zip" p) [a, b] [] pos) (tI T E (cZip ca cb)) :=
  PI.imp (pi_zip hg hm (pa_cons ha (pa_cons hb pa_nil hs2) hs) hs hpl) fun σ H R q => by
    obtain ⟨ι, A, ρ, at0, p⟩ := q
    refine ⟨ι, A, ρ, at0, ?_⟩
    unfold cZip at p
    cases e : ca ρ A with
    | bad => rw [e] at p; exact False.elim p
    | exc k A' => rw [e] at p; exact p
    | ok d A' =>
      rw [e] at p
      intro ι1 H1 v fp n r f
      refine ⟨ι1, A', ρ, at0.next n, ?_⟩
      have p : PoI T ρ.b ι A H ((cb ρ A').bind fun y A2 => (walkL d A2).bind fun p A3 => (walkL y A3).bind fun q A4 => .ok (List.zipWith (fun x y => .tup [x, y]) p.1 q.1, p.2 ++ q.2) A4) R E := p
      cases e2 : cb ρ A' with
      | bad => rw [e2] at p; exact False.elim p
      | exc k A2 => rw [e2] at p; exact fun ι' H' m => p ι' H' (n.trans m)
      | ok d2 A2 =>
        rw [e2] at p
        intro ι2 H2 w fq n2 r2 f2
        have p : PoI T ρ.b ι A H ((walkL d A2).bind fun p A3 => (walkL d2 A3).bind fun q A4 => .ok (List.zipWith (fun x y => .tup [x, y]) p.1 q.1, p.2 ++ q.2) A4) R E := p
        have hd := Rp.dom d v fp r
        obtain ⟨rr, f3⟩ := Rps.next (H := H) n.wd n2 (Rps.one r) f hd
        obtain ⟨v', ev, rr⟩ := rr.one_inv
        cases ev
        have fall := f3.app f2 n.ext hd
        cases eq : walkL d A2 with
        | bad => rw [eq] at p; exact False.elim p
        | exc k A2 => exact (walkL_noexc eq).elim
        | ok w1 A3 =>
          rw [eq] at p
          have p : PoI T ρ.b ι A H ((walkL d2 A3).bind fun q A4 => .ok (List.zipWith (fun x y => .tup [x, y]) w1.1 q.1, w1.2 ++ q.2) A4) R E := p
          obtain ⟨c1, fc1, ex1, rfl, n3, _, hL1, sb1⟩ := walkL_ok at0.wd at0.bl (n.trans n2) rr f3 (items := w1.1) (w := w1.2) (A2 := A3) eq
          cases eq2 : walkL d2 A3 with
          | bad => rw [eq2] at p; exact False.elim p
          | exc k A2 => exact (walkL_noexc eq2).elim
          | ok w2 A4 =>
            rw [eq2] at p
            have hnd := fall.1
            rw [List.nodup_append] at hnd
            have fr3 : Fr H (ι2 ++ fc1) fq := ⟨hnd.2.1, fun x hx => ⟨(fall.2 x (by simp [hx])).1, fun z => by
              rcases List.mem_append.mp z with z | z
              · exact (fall.2 x (by simp [hx])).2 z
              · exact hnd.2.2 x (sb1.mem z) x hx rfl⟩⟩
            obtain ⟨c2, fc2, ex2, rfl, n4, eA4, hL2, sb2⟩ := walkL_ok at0.wd at0.bl n3 (Rp.app fc1 _ _ _ r2) fr3 (items := w2.1) (w := w2.2) (A2 := A4) eq2
            have hL1' : LSt T ((ι2 ++ fc1) ++ fc2) A4 H2 fp c1 w1.1 w1.2 := by
              rw [eA4]
              exact hL1.more fun x hx z => hnd.2.2 x hx x (sb2.mem z) rfl
            obtain ⟨sn1, vs1, s1, _⟩ := hL1'.now n4.wd
            obtain ⟨sn2, vs2, s2, _⟩ := hL2.now n4.wd
            refine ⟨c1, c2, vs1, vs2, rfl, by rw [← hK]; exact s1, by rw [← hK]; exact s2, ?_⟩
            have := p _ H2 (Itz T.K c1 c2) n4 (jok_zip hL1'.later hL2.later) (by unfold seen at sn1 sn2 ⊢; rw [List.all_append, sn1, sn2]; rfl)
            rw [hK] at this
            exact this
end
end Ab

set_option Elab.async false
set_option linter.all false
set_option maxRecDepth 100000
set_option maxHeartbeats 1000000
set_option autoImplicit false
/-! Ab8: comprehensions, statements, loops. -/
namespace Ab
open PySem PySem.Spec PyProof.Rows L2

/-! ### a list that grows outside the places -/
section
variable {T : Tb} {ι ι0 : List Addr} {H H0 : Hp} {A A0 : AH} {b : Nat}
theorem sqT_off {D a : Addr} {xs : List V} {o' : HO} {vs : List V} (h : H D = some (.lst xs)) (r : SqT T.K H a vs) : SqT T.K (L2.upd H D o') a vs := by
  rcases r with (r | ⟨o, r⟩) | r
  · exact .inl (.inl (by rw [upd_ne (ne_of r h (by intro z; cases z))]; exact r))
  · exact .inl (.inr ⟨o, by rw [upd_ne (ne_of r h (by intro z; cases z))]; exact r⟩)
  · exact .inr r
theorem rok_off {D a : Addr} {xs : List V} {o' : HO} {vs : List V} (h : H D = some (.lst xs)) (r : ROk T H a vs) : ROk T (L2.upd H D o') a vs := by
  rcases r with ⟨o, r⟩ | r
  · exact .inl ⟨o, by rw [upd_ne (ne_of r h (by intro z; cases z))]; exact r⟩
  · exact .inr r
mutual
theorem Rp.off {D : Addr} {ys : List V} {o' : HO} (h : H D = some (.lst ys)) : ∀ (d : Vl) (v : V) (fp : List Addr), Rp T ι H v d fp → D ∉ fp → Rp T ι (L2.upd H D o') v d fp
  | .non, _, _, r, _ => by cases r; exact .non
  | .bl b, _, _, r, _ => by cases r; exact .bl b
  | .int b, _, _, r, _ => by cases r; exact .int b
  | .str b, _, _, r, _ => by cases r; exact .str b
  | .fn b, _, _, r, _ => by cases r; exact .fn b
  | .loc n, _, _, r, _ => by
    cases r with
    | loc r => exact .loc r
  | .tup xs, _, _, r, hf => by
    cases r with
    | tup h1 h2 => exact .tup (sqT_off h h1) (Rps.off h xs _ _ h2 hf)
  | .rol xs, _, _, r, hf => by
    cases r with
    | rol h1 h2 => exact .rol (rok_off h h1) (Rps.off h xs _ _ h2 hf)
  | .new k xs, _, _, r, hf => by
    cases r with
    | @new a _ o vs _ fc h1 h2 h3 =>
      have hne : a ≠ D := fun z => hf (by simp [z])
      exact .new (by rw [upd_ne hne]; exact h1) h2 (Rps.off h xs _ _ h3 fun z => hf (by simp [z]))
theorem Rps.off {D : Addr} {ys : List V} {o' : HO} (h : H D = some (.lst ys)) : ∀ (ds : List Vl) (vs : List V) (fp : List Addr), Rps T ι H vs ds fp → D ∉ fp → Rps T ι (L2.upd H D o') vs ds fp
  | [], _, _, r, _ => by cases r; exact .nil
  | d :: ds, _, _, r, hf => by
    cases r with
    | cons h1 h2 => exact .cons (Rp.off h d _ _ h1 fun z => hf (by simp [z])) (Rps.off h ds _ _ h2 fun z => hf (by simp [z]))
end
theorem Nx.off {D : Addr} {ys : List V} {o' : HO} (n : Nx T b ι0 A0 H0 ι A H) (h : H D = some (.lst ys)) (h0 : H0 D = none) (hD : D ∉ ι) : Nx T b ι0 A0 H0 ι A (L2.upd H D o') := by
  refine ⟨⟨n.wd.len, n.wd.nd, fun j k xs a e1 e2 => ?_⟩, ⟨n.ext.pre, fun a o q k => ?_, fun a o q => ?_⟩, n.cl⟩
  · obtain ⟨o, vs, q1, q2, q3⟩ := n.wd.cel j k xs a e1 e2
    have hne : a ≠ D := fun z => hD (z ▸ List.mem_of_getElem? e2)
    exact ⟨o, vs, by rw [upd_ne hne]; exact q1, q2, Rps.off h _ _ _ q3 (by simp)⟩
  · rw [upd_ne (ne_of_none q h0)]
    exact n.ext.keep a o q k
  · rw [upd_ne (ne_of_none q h0)]
    exact n.ext.dom a o q
end

/-! ### comprehensions -/
def wipeS (s : List (Option Vl)) : List Nat → List (Option Vl)
  | [] => s
  | v :: vs => (wipeS s vs).set v none
theorem Er.none {T : Tb} {ι : List Addr} {H : Hp} {σ : L2.St} {s : List (Option Vl)} {i : Nat} (e : Er T ι H σ s) : Er T ι H (σ.set i none) (s.set i none) := by
  refine ⟨by rw [List.length_set, List.length_set]; exact e.1, fun j d' h => ?_⟩
  by_cases hj : i = j
  · subst hj
    by_cases hl : i < s.length
    · rw [List.getElem?_set_self hl] at h; cases h
    · rw [List.getElem?_eq_none (by simpa using hl)] at h; cases h
  · rw [List.getElem?_set_ne hj] at h
    obtain ⟨v', h1, h2⟩ := e.2 j d' h
    exact ⟨v', by rw [List.getElem?_set_ne hj]; exact h1, h2⟩
theorem Er.wipe {T : Tb} {ι : List Addr} {H : Hp} {σ : L2.St} {s : List (Option Vl)} (e : Er T ι H σ s) : ∀ vs : List Nat, Er T ι H (L2.wipe σ vs) (wipeS s vs)
  | [] => e
  | v :: vs => (Er.wipe e vs).none
def cYes : CT := fun _ A => .ok true A
def compL (t : Tgt) (test : CT) (elt : CE) (w : Wch) (b : Nat) (s : List (Option Vl)) : List Vl → AH → List Vl → Res (List Vl)
  | [], A, acc => .ok acc A
  | d :: r, A, acc => match put t d s with
    | none => .bad
    | some s1 => match test ⟨b, s1⟩ A with
      | .ok true A1 => (match elt ⟨b, s1⟩ A1 with
        | .ok y A2 => if seen w A2 = true then compL t test elt w b s r A2 (acc ++ [y]) else .bad
        | _ => .bad)
      | .ok false A1 => if seen w A1 = true then compL t test elt w b s r A1 acc else .bad
      | _ => .bad
def cLc (ci : CI) (t : Tgt) (test : CT) (elt : CE) (vs : List Nat) : CE := fun ρ A => (ci ρ A).bind fun p A1 => if p.1.length ≤ 100000 then (compL t test elt p.2 ρ.b (wipeS ρ.s vs) p.1 A1 []).bind fun acc A2 => .ok (.new .lst acc) A2 else .bad
abbrev EF : XE := fun _ _ => False
theorem lc_ok {T : Tb} {E : XE} {ci : CI} {t : Tgt} {test : CT} {elt : CE} {vs : List Nat} {σ : L2.St} {H : Hp} {Q : VK} (hsl : ∀ i ∈ slots t, i ∈ vs) (h : tE T E (cLc ci t test elt vs) σ H Q) : tLc (tI T E ci) (den T.K t) (tT T EF test) (tE T EF elt) vs σ H Q := by
  obtain ⟨ι, A, ρ, at0, p⟩ := h
  refine ⟨ι, A, ρ, at0, ?_⟩
  unfold cLc at p
  cases e : ci ρ A with
  | bad => rw [e] at p; exact p
  | exc k A' => rw [e] at p; exact p
  | ok pw A1 =>
    rw [e] at p
    simp only [Res.bind] at p
    split at p
    · rename_i hlen
      have hb1 : ∀ {ι1 H1}, Nx T ρ.b ι A H ι1 A1 H1 → ρ.b ≤ A1.length := fun n => Nat.le_trans at0.bl (n.le at0.wd)
      refine fun ι1 H1 J n hJ hseen D hD => ?_
      have hb := hb1 n
      refine ⟨fun i m H2 => m = pw.1.length - i ∧ i ≤ pw.1.length ∧ ∃ ι2 A2 accV acc fp, Nx T ρ.b ι1 A1 H1 ι2 A2 H2 ∧ H2 D = some (.lst accV) ∧ D ∉ ι2 ∧ Rps T ι2 H2 accV acc fp ∧ Fr H1 ι2 (fp ++ [D]) ∧ seen pw.2 A2 = true ∧ acc.length ≤ i ∧
        Po T ρ.b ι A H ((compL t test elt pw.2 ρ.b (wipeS ρ.s vs) (pw.1.drop i) A2 acc).bind fun acc A2 => .ok (.new .lst acc) A2) Q E, ⟨pw.1.length, by simp, Nat.zero_le _, ι1, A1, [], [], [], (Nx.refl n.wd).upd hD, upd_same, n.wd.fresh hD, .nil, ⟨by simp, fun a ha => ?_⟩, hseen, Nat.le_refl _, p⟩, ?_⟩
      · simp at ha
        subst ha
        exact ⟨hD, n.wd.fresh hD⟩
      · rintro i m H2 ⟨rfl, hi, ι2, A2, accV, acc, fp, n2, hD2, hDι, racc, facc, hs2, hacc, po⟩
        have hJ2 := hJ ι2 A2 H2 n2 hs2
        by_cases hlt : i < pw.1.length
        · obtain ⟨hgo, hy⟩ := hJ2.1 i pw.1[i] (List.getElem?_eq_getElem hlt)
          refine .inr ⟨hgo, fun H3 => i + 1 ≤ pw.1.length ∧ ∃ ι2 A2 accV acc fp, Nx T ρ.b ι1 A1 H1 ι2 A2 H3 ∧ H3 D = some (.lst accV) ∧ D ∉ ι2 ∧ Rps T ι2 H3 accV acc fp ∧ Fr H1 ι2 (fp ++ [D]) ∧ seen pw.2 A2 = true ∧ acc.length ≤ i + 1 ∧
            Po T ρ.b ι A H ((compL t test elt pw.2 ρ.b (wipeS ρ.s vs) (pw.1.drop (i + 1)) A2 acc).bind fun acc A2 => .ok (.new .lst acc) A2) Q E, fun H3 h3 => ⟨pw.1.length - (i + 1), by omega, rfl, h3.1, h3.2⟩, fun x H3 hx => ?_⟩
          obtain ⟨rx, nx⟩ := hy x H3 hx
          have n3 := n2.trans nx
          have hdrop : pw.1.drop i = pw.1[i] :: pw.1.drop (i + 1) := List.drop_eq_getElem_cons hlt
          rw [hdrop, compL] at po
          -- the target
          cases hp : put t pw.1[i] (wipeS ρ.s vs) with
          | none => rw [hp] at po; exact False.elim po
          | some s1 =>
            rw [hp] at po
            have er3 : Er T ι2 H3 σ ρ.s := (at0.er.mono (n.trans n3).ext)
            have hD3 : H3 D = some (.lst accV) := nx.ext.keep D _ hD2 (.inl hDι)
            have hdomacc : ∀ a ∈ fp, ∃ o, H2 a = some o := Rps.dom _ _ _ racc
            have racc3 : Rps T ι2 H3 accV acc fp := Rps.mono nx.ext _ _ _ racc fun a ha => (facc.2 a (by simp [ha])).2
            refine den_ok t pw.1[i] x (wipeS ρ.s vs) s1 (L2.wipe σ vs) _ (er3.wipe vs) rx hp fun σ1 er1 hw1 => ⟨?_, ?_⟩
            · rw [hw1 vs hsl]
              exact wipe_wipe vs
            · have at3 : At T σ1 H3 ι2 A2 ⟨ρ.b, s1⟩ := ⟨n3.wd, er1, Nat.le_trans hb (n3.le n.wd)⟩
              refine ⟨ι2, A2, ⟨ρ.b, s1⟩, at3, ?_⟩
              dsimp only at po ⊢
              cases et : test ⟨ρ.b, s1⟩ A2 with
              | bad => rw [et] at po; exact False.elim po
              | exc k A3 => rw [et] at po; exact False.elim po
              | ok kk A3 =>
                rw [et] at po
                intro ι4 H4 n4
                have n04 := n3.trans n4
                have hD4 : H4 D = some (.lst accV) := n4.ext.keep D _ hD3 (.inl hDι)
                have hdom3 : ∀ a ∈ fp ++ [D], ∃ o, H3 a = some o := fun a ha => by
                  rcases List.mem_append.mp ha with z | z
                  · exact Rps.dom _ _ _ racc3 a z
                  · simp at z; subst z; exact ⟨_, hD3⟩
                have off4 : ∀ a ∈ fp ++ [D], a ∉ ι4 := fun a ha z => by
                  obtain ⟨nw, en, hn⟩ := n4.ext.pre
                  rw [en] at z
                  rcases List.mem_append.mp z with z | z
                  · exact (facc.2 a ha).2 z
                  · obtain ⟨o, ho⟩ := hdom3 a ha
                    rw [hn a z] at ho; cases ho
                have racc4 : Rps T ι4 H4 accV acc fp := Rps.mono n4.ext _ _ _ racc3 fun a ha => (facc.2 a (by simp [ha])).2
                have facc4 : Fr H1 ι4 (fp ++ [D]) := ⟨facc.1, fun a ha => ⟨(facc.2 a ha).1, off4 a ha⟩⟩
                cases kk with
                | false =>
                  rw [if_neg Bool.false_ne_true]
                  simp only at po
                  split at po
                  · rename_i hs3
                    exact ⟨hlt, ι4, A3, accV, acc, fp, n04, hD4, off4 D (by simp), racc4, facc4, hs3, by omega, po⟩
                  · exact False.elim po
                | true =>
                  rw [if_pos rfl]
                  refine ⟨ι4, A3, ⟨ρ.b, s1⟩, at3.next n4, ?_⟩
                  dsimp only at po ⊢
                  cases ee : elt ⟨ρ.b, s1⟩ A3 with
                  | bad => rw [ee] at po; exact False.elim po
                  | exc k A4 => rw [ee] at po; exact False.elim po
                  | ok y A4 =>
                    rw [ee] at po
                    intro ι5 H5 yv fy n5 ry fry
                    simp only at po
                    split at po
                    · rename_i hs4
                      have n05 := n04.trans n5
                      have hDι4 := off4 D (by simp)
                      have hD5 : H5 D = some (.lst accV) := n5.ext.keep D _ hD4 (.inl hDι4)
                      have hdom4 : ∀ a ∈ fp ++ [D], ∃ o, H4 a = some o := fun a ha => by
                        rcases List.mem_append.mp ha with z | z
                        · exact Rps.dom _ _ _ racc4 a z
                        · simp at z; subst z; exact ⟨_, hD4⟩
                      have off5 : ∀ a ∈ fp ++ [D], a ∉ ι5 := fun a ha z => by
                        obtain ⟨nw, en, hn⟩ := n5.ext.pre
                        rw [en] at z
                        rcases List.mem_append.mp z with z | z
                        · exact off4 a ha z
                        · obtain ⟨o, ho⟩ := hdom4 a ha
                          rw [hn a z] at ho; cases ho
                      have racc5 : Rps T ι5 H5 accV acc fp := Rps.mono n5.ext _ _ _ racc4 fun a ha => off4 a (by simp [ha])
                      have hDfy : D ∉ fy := fun z => by
                        rw [(fry.2 D z).1] at hD4; cases hD4
                      have hDfp : D ∉ fp := fun z => by
                        have := facc.1
                        rw [List.nodup_append] at this
                        exact this.2.2 D z D (by simp) rfl
                      have hdisj : ∀ a ∈ fp, a ∉ fy := fun a ha z => by
                        obtain ⟨o, ho⟩ := hdom4 a (by simp [ha])
                        rw [(fry.2 a z).1] at ho; cases ho
                      refine ⟨accV, hD5, by rw [racc5.len]; exact size_lt (by omega), hlt, ι5, A4, accV ++ [yv], acc ++ [y], fp ++ fy, n05.off hD5 hD (off5 D (by simp)), upd_same, off5 D (by simp), ?_, ⟨?_, fun a ha => ?_⟩, hs4, by simp; omega, po⟩
                      · have := (racc5.append (Rps.one ry))
                        exact Rps.off hD5 _ _ _ this (by simp [hDfp, hDfy])
                      · rw [List.nodup_append, List.nodup_append]
                        refine ⟨⟨?_, fry.1, fun x hx z hz q => hdisj x hx (q ▸ hz)⟩, by simp, fun x hx z hz q => ?_⟩
                        · have := facc.1
                          rw [List.nodup_append] at this
                          exact this.1
                        · simp at hz
                          subst hz; subst q
                          rcases List.mem_append.mp hx with q | q
                          · exact hDfp q
                          · exact hDfy q
                      · rcases List.mem_append.mp ha with z | z
                        · rcases List.mem_append.mp z with z | z
                          · exact ⟨(facc.2 a (by simp [z])).1, off5 a (by simp [z])⟩
                          · exact ⟨n04.ext.back (fry.2 a z).1, (fry.2 a z).2⟩
                        · simp at z
                          subst z
                          exact ⟨hD, off5 a (by simp)⟩
                    · exact False.elim po
        · have hi2 : i = pw.1.length := by omega
          subst hi2
          refine .inl ⟨hJ2.2 _ (Nat.le_refl _), ?_⟩
          rw [List.drop_length, compL] at po
          exact po ι2 H2 _ (fp ++ [D]) (n.trans n2) (.new hD2 rfl racc) (facc.back n.ext)
    · exact p.elim
where
  wipe_wipe {σ : L2.St} : ∀ vs : List Nat, L2.wipe (L2.wipe σ vs) vs = L2.wipe σ vs := fun vs => by
    have key : ∀ (us : List Nat), (∀ u ∈ us, u ∈ vs) → L2.wipe (L2.wipe σ us) vs = L2.wipe σ vs := by
      intro us
      induction us with
      | nil => intro _; rfl
      | cons u us ih =>
        intro h
        rw [show L2.wipe σ (u :: us) = (L2.wipe σ us).set u none from rfl, wipe_set (h u (by simp))]
        exact ih fun x hx => h x (by simp [hx])
    exact key vs fun _ h => h
end Ab

set_option Elab.async false
set_option linter.all false
set_option maxRecDepth 100000
set_option maxHeartbeats 1000000
set_option autoImplicit false
/-! Ab9: comprehensions as terms, statements, loops. -/
namespace Ab
open PySem PySem.Spec PyProof.Rows L2

theorem gts_nil {X : Cx} {T : Tb} {E : XE} : PTs X [] (tT T E cYes) := ⟨fun pins s σ H Q I h => pts_nil.run pins s σ H Q I (by
  obtain ⟨ι, A, ρ, a, p⟩ := h
  exact p ι H (.refl a.wd))⟩
theorem gts_one {X : Cx} {T : Tb} {E : XE} {c : Expr} {t : CT} (h : PT X c (tT T E t)) : PTs X [c] (tT T E t) := pts_one h
section
variable {X : Cx} {T : Tb} {E : XE}
theorem ge_lc {elt tg iter : Expr} {ifs : List Expr} {scope : Scope} {own : List (Str × Nat)} {pos : Pos} {ci : CI} {t : Tgt} {test : CT} {ce : CE} (hsl : ∀ i ∈ slots t, i ∈ own.map (·.2)) (hc : X.calm = true) (hN : X.N.Nodup) (hi : PI X tg iter (tI T E ci)) (ok : BlkOk X.N X.env.scope scope own)
    (hg : ∀ (s : Shared) (H : Hp) (C : Addr) (cl : List (Str × Addr)) (fp : List Addr), PG (X.blk s H scope (compEnvC scope cl C X.env) fp) tg (den T.K t)) (ht : ∀ (s : Shared) (H : Hp) (C : Addr) (cl : List (Str × Addr)) (fp : List Addr), PTs (X.blk s H scope (compEnvC scope cl C X.env) fp) ifs (tT T EF test))
    (he : ∀ (s : Shared) (H : Hp) (C : Addr) (cl : List (Str × Addr)) (fp : List Addr), PE (X.blk s H scope (compEnvC scope cl C X.env) fp) elt (tE T EF ce)) (hs : ∀ x, foldedSetIterable iter X.env x = pure x := by intro _; rfl) :
    PE X (.ListComp elt [⟨tg, iter, ifs, 0⟩] scope pos) (tE T E (cLc ci t test ce (own.map (·.2)))) :=
  PE.imp (pe_lc hc hN hi ok hg ht he hs) fun σ H Q q => lc_ok hsl q
end

/-! ### statements -/
def cDrop (c : CE) : CS := fun ρ A => match c ρ A with
  | .ok _ A1 => .nx ρ.s A1
  | .exc k A1 => .exc k A1
  | .bad => .bad
def cPut (t : Tgt) (c : CE) : CS := fun ρ A => match c ρ A with
  | .ok d A1 => (match put t (box d A1).1 ρ.s with
    | some s => .nx s (box d A1).2
    | none => .bad)
  | .exc k A1 => .exc k A1
  | .bad => .bad
def cPar (i j : Nat) (cs : CA) : CS := fun ρ A => match cs ρ A with
  | .ok ds A1 => (match (boxs ds A1).1 with
    | [x, y] => .nx ((ρ.s.set i (some x)).set j (some y)) (boxs ds A1).2
    | _ => .bad)
  | .exc k A1 => .exc k A1
  | .bad => .bad
def cAug (i : Nat) (g : Int → Int → Int) (c : CE) : CS := fun ρ A => match ρ.s[i]? with
  | some (some (.int x)) => (match c ρ A with
    | .ok (.int y) A1 => .nx (ρ.s.set i (some (.int (g x y)))) A1
    | .exc k A1 => .exc k A1
    | _ => .bad)
  | _ => .bad
def cRet (c : CE) : CS := fun ρ A => match c ρ A with
  | .ok d A1 => .rt d A1
  | .exc k A1 => .exc k A1
  | .bad => .bad
def cRetN : CS := fun ρ A => .rt .non A
def cNx : CS := fun ρ A => .nx ρ.s A
def cBad : CS := fun _ _ => .bad
def cSeq (c d : CS) : CS := fun ρ A => match c ρ A with
  | .nx s A1 => d ⟨ρ.b, s⟩ A1
  | r => r
def cIf (t : CT) (c d : CS) : CS := fun ρ A => match t ρ A with
  | .ok true A1 => c ρ A1
  | .ok false A1 => d ρ A1
  | .exc k A1 => .exc k A1
  | .bad => .bad
def forL (t : Tgt) (body : CS) (w : Wch) (b : Nat) : List Vl → List (Option Vl) → AH → SR
  | [], s, A => .nx s A
  | d :: r, s, A => match put t d s with
    | none => .bad
    | some s1 => match body ⟨b, s1⟩ A with
      | .nx s2 A2 => if seen w A2 = true then forL t body w b r s2 A2 else .bad
      | q => q
def cFor (ci : CI) (t : Tgt) (body : CS) : CS := fun ρ A => match ci ρ A with
  | .ok p A1 => forL t body p.2 ρ.b p.1 ρ.s A1
  | .exc k A1 => .exc k A1
  | .bad => .bad
def whileL (test : CT) (body : CS) (b : Nat) : Nat → List (Option Vl) → AH → SR
  | 0, _, _ => .bad
  | f + 1, s, A => match test ⟨b, s⟩ A with
    | .ok true A1 => (match body ⟨b, s⟩ A1 with
      | .nx s2 A2 => whileL test body b f s2 A2
      | q => q)
    | .ok false A1 => .nx s A1
    | .exc k A1 => .exc k A1
    | .bad => .bad
def cWhile (fuel : Nat) (test : CT) (body : CS) : CS := fun ρ A => whileL test body ρ.b fuel ρ.s A
section
variable {X : Cx} {T : Tb} {E : XE} {st : Stmt} {rest : List Stmt} {e : Expr} {c : CE} {pos : Pos} {cs : CA}
theorem gs_drop (he : PE X e (tE T E c)) (hs : swapsWith e none pos.line X.env = pure false := by rfl) : PS X (.Expr e pos) (tS T E (cDrop c)) :=
  PS.imp (ps_expr he hs) fun D σ H q => by
    obtain ⟨ι, A, ρ, a, p⟩ := q
    refine ⟨ι, A, ρ, a, ?_⟩
    unfold cDrop at p
    cases e1 : c ρ A with
    | bad => rw [e1] at p; exact p
    | exc k A' => rw [e1] at p; exact p
    | ok d A' =>
      rw [e1] at p
      exact fun ι1 H1 v fp n r f => p ι1 H1 σ n (a.er.mono n.ext)
theorem put_ok {t : Tgt} {c : CE} {D : Ends} {σ : L2.St} {H : Hp} (h : tS T E (cPut t c) D σ H) : tE T E c σ H fun x H1 => den T.K t x σ H1 D.nx := by
  obtain ⟨ι, A, ρ, a, p⟩ := h
  refine ⟨ι, A, ρ, a, ?_⟩
  unfold cPut at p
  cases e1 : c ρ A with
  | bad => rw [e1] at p; exact p
  | exc k A' => rw [e1] at p; exact p
  | ok d A' =>
    rw [e1] at p
    intro ι1 H1 v fp n r f
    simp only at p
    split at p
    · rename_i s es
      obtain ⟨n2, r2, ex, e2⟩ := n.boxed1 (Nat.le_trans a.bl (n.le a.wd)) r f
      exact den_ok t _ v ρ.s s σ D.nx (a.er.mono n2.ext) r2 es fun σ' er _ => p _ H1 σ' n2 er
    · exact p.elim
theorem gs_set {i : Nat} {x : Str} {pos' : Pos} (hN : X.N.Nodup) (hi : X.N[i]? = some x) (hx : Loc X.env.scope x) (he : PE X e (tE T E c)) (hs : swapsWith e (some (.Name x pos')) pos.line X.env = pure false := by rfl) (hf : X.fn x = true ∨ X.env.scope.names.lookup x = some .local := by first | exact .inl rfl | exact .inr rfl | assumption) :
    PS X (.Assign [.Name x pos'] e pos) (tS T E (cPut (.nm i) c)) :=
  PS.imp (ps_set hN hi hx he hs hf) fun D σ H q => put_ok q
theorem gs_setLc {i : Nat} {y : Str} {py : Pos} {elt tg iter : Expr} {ifs : List Expr} {scope : Scope} {own : List (Str × Nat)} {spos : Pos} {ci : CI} {t : Tgt} {test : CT} {ce : CE} (hsl : ∀ i ∈ slots t, i ∈ own.map (·.2)) (hc : X.calm = true) (hN : X.N.Nodup) (hy : X.N[i]? = some y) (hyl : X.env.scope.names.lookup y = some .local)
    (hsw : swapsWith (.ListComp elt [⟨tg, iter, ifs, 0⟩] scope pos) (some (.Name y py)) spos.line X.env = pure true) (hi : PI X tg iter (tI T E ci)) (ok : BlkOk X.N X.env.scope scope own)
    (hg : ∀ (s : Shared) (H : Hp) (C : Addr) (cl : List (Str × Addr)) (fp : List Addr), PG (X.blk s H scope (compEnvC scope cl C X.env) fp) tg (den T.K t)) (ht : ∀ (s : Shared) (H : Hp) (C : Addr) (cl : List (Str × Addr)) (fp : List Addr), PTs (X.blk s H scope (compEnvC scope cl C X.env) fp) ifs (tT T EF test))
    (he : ∀ (s : Shared) (H : Hp) (C : Addr) (cl : List (Str × Addr)) (fp : List Addr), PE (X.blk s H scope (compEnvC scope cl C X.env) fp) elt (tE T EF ce)) (hs : ∀ x, foldedSetIterable iter X.env x = pure x := by intro _; rfl) :
    PS X (.Assign [.Name y py] (.ListComp elt [⟨tg, iter, ifs, 0⟩] scope pos) spos) (tS T E (cPut (.nm i) (cLc ci t test ce (own.map (·.2))))) :=
  PS.imp (ps_setLc hc hN hy hyl hsw hi ok hg ht he hs) fun D σ H q => lc_ok hsl (put_ok (t := .nm i) q)
theorem gs_asg {tg : Expr} {t : Tgt} (he : PE X e (tE T E c)) (hg : PG X tg (den T.K t)) (hs : swapsWithSole [tg] e pos.line X.env = pure false := by rfl) (hw : swappedStores [tg] e X.env = pure none := by rfl)
    (h1 : (assignEach [tg] X.env).map (·.2) = [assign tg X.env] := by rfl) : PS X (.Assign [tg] e pos) (tS T E (cPut t c)) :=
  PS.imp (ps_asg he hg hs hw h1) fun D σ H q => put_ok q
theorem gs_par {i j : Nat} {x y : Str} {a b : Expr} {px py pt : Pos} {kt k2 pt2} (hc : X.calm = true) (hN : X.N.Nodup) (hi : X.N[i]? = some x) (hj : X.N[j]? = some y) (hij : i ≠ j)
    (hx : X.env.scope.names.lookup x = some .local) (hy : X.env.scope.names.lookup y = some .local) (ha : PA X [a, b] (tA T E cs))
    (hw : swappedStores [.Tuple [.Name x px, .Name y py] kt pt] (.Tuple [a, b] k2 pt2) X.env = pure (some [x, y]))
    (hs : swapsWithSole [.Tuple [.Name x px, .Name y py] kt pt] (.Tuple [a, b] k2 pt2) pos.line X.env = pure false := by rfl) :
    PS X (.Assign [.Tuple [.Name x px, .Name y py] kt pt] (.Tuple [a, b] k2 pt2) pos) (tS T E (cPar i j cs)) :=
  PS.imp (ps_par hc hN hi hj hij hx hy ha hw hs) fun D σ H q => by
    obtain ⟨ι, A, ρ, at0, p⟩ := q
    refine ⟨ι, A, ρ, at0, ?_⟩
    unfold cPar at p
    cases e1 : cs ρ A with
    | bad => rw [e1] at p; exact p
    | exc k A' => rw [e1] at p; exact p
    | ok ds A' =>
      rw [e1] at p
      intro ι1 H1 vs fp n r f
      simp only at p
      obtain ⟨n2, r2, ex, e2⟩ := n.boxed (Nat.le_trans at0.bl (n.le at0.wd)) r f
      split at p
      · rename_i u v eb
        rw [eb] at r2
        obtain ⟨v1, w1, f1, f2, e3, e4, q1, q2⟩ := r2.two_inv
        obtain ⟨rfl, rfl⟩ := List.append_eq_nil_iff.mp e4.symm
        subst e3
        exact ⟨v1, w1, rfl, p _ H1 _ n2 (((at0.er.mono n2.ext).set q1).set q2)⟩
      · exact p.elim
theorem gs_aug {i : Nat} {x : Str} {op : Operator} {g : Int → Int → Int} {pos' : Pos} (hN : X.N.Nodup) (hi : X.N[i]? = some x) (hx : Loc X.env.scope x) (he : PE X e (tE T E c)) (ho : PIp X op (ipI g)) (hf : X.fn x = true ∨ X.env.scope.names.lookup x = some .local := by first | exact .inl rfl | exact .inr rfl | assumption) :
    PS X (.AugAssign (.Name x pos') op e pos) (tS T E (cAug i g c)) :=
  PS.imp (ps_aug hN hi hx he ho hf) fun D σ H q => by
    obtain ⟨ι, A, ρ, a, p⟩ := q
    unfold cAug at p
    split at p
    · rename_i x0 ex
      obtain ⟨v, h1, h2⟩ := a.er.2 i _ ex
      cases h2
      refine ⟨_, h1, ι, A, ρ, a, ?_⟩
      cases e1 : c ρ A with
      | bad => rw [e1] at p; exact p.elim
      | exc k A' => rw [e1] at p; exact p
      | ok d A' =>
        rw [e1] at p
        cases d with
        | int y =>
          intro ι1 H1 v fp n r f
          cases r
          exact ⟨x0, y, rfl, rfl, p ι1 H1 _ n ((a.er.mono n.ext).set (.int _))⟩
        | _ => exact False.elim p
    · exact p.elim
theorem gs_ret (he : PE X e (tE T E c)) : PS X (.Return (some e) pos) (tS T E (cRet c)) :=
  PS.imp (ps_ret he) fun D σ H q => by
    obtain ⟨ι, A, ρ, a, p⟩ := q
    refine ⟨ι, A, ρ, a, ?_⟩
    unfold cRet at p
    cases e1 : c ρ A with
    | bad => rw [e1] at p; exact p
    | exc k A' => rw [e1] at p; exact p
    | ok d A' => rw [e1] at p; exact p
theorem gs_retN : PS X (.Return none pos) (tS T E cRetN) :=
  PS.imp ps_retN fun D σ H q => by
    obtain ⟨ι, A, ρ, a, p⟩ := q
    exact p ι H .non [] (.refl a.wd) .non .nil
theorem gs_pass : PS X (.Pass pos) (tS T E cNx) :=
  PS.imp ps_pass fun D σ H q => by
    obtain ⟨ι, A, ρ, a, p⟩ := q
    exact p ι H σ (.refl a.wd) a.er
theorem gs_never : PS X st (tS T E cBad) :=
  PS.imp ps_never fun D σ H q => by
    obtain ⟨ι, A, ρ, a, p⟩ := q
    exact p
theorem gss_nil : PSs X [] (tS T E cNx) :=
  PSs.imp pss_nil fun D σ H q => by
    obtain ⟨ι, A, ρ, a, p⟩ := q
    exact p ι H σ (.refl a.wd) a.er
theorem gss_one {cd : CS} (h : PS X st (tS T E cd)) : PSs X [st] (tS T E cd) := pss_one h
theorem gss_cons {c1 c2 : CS} (h1 : PS X st (tS T E c1)) (h2 : PSs X rest (tS T E c2)) : PSs X (st :: rest) (tS T E (cSeq c1 c2)) :=
  PSs.imp (pss_cons h1 h2) fun D σ H q => by
    obtain ⟨ι, A, ρ, a, p⟩ := q
    refine ⟨ι, A, ρ, a, ?_⟩
    unfold cSeq at p
    cases e1 : c1 ρ A with
    | bad => rw [e1] at p; exact p
    | exc k A' => rw [e1] at p; exact p
    | rt d A' => rw [e1] at p; exact p
    | nx s A' =>
      rw [e1] at p
      exact fun ι1 H1 σ' n er => ⟨ι1, A', ⟨ρ.b, s⟩, ⟨n.wd, er, Nat.le_trans a.bl (n.le a.wd)⟩, PoS.re n p⟩
theorem gs_if {t : CT} {a b : List Stmt} {c1 c2 : CS} (hc : PT X e (tT T E t)) (ha : PSs X a (tS T E c1)) (hb : PSs X b (tS T E c2)) : PS X (.If e a b pos) (tS T E (cIf t c1 c2)) :=
  PS.imp (ps_if hc ha hb) fun D σ H q => by
    obtain ⟨ι, A, ρ, a, p⟩ := q
    refine ⟨ι, A, ρ, a, ?_⟩
    unfold cIf at p
    cases e1 : t ρ A with
    | bad => rw [e1] at p; exact p
    | exc k A' => rw [e1] at p; exact p
    | ok k A' =>
      rw [e1] at p
      intro ι1 H1 n
      cases k with
      | true =>
        rw [if_pos rfl]
        exact ⟨ι1, A', ρ, a.next n, PoS.re n p⟩
      | false =>
        rw [if_neg Bool.false_ne_true]
        exact ⟨ι1, A', ρ, a.next n, PoS.re n p⟩
theorem gs_for {tg iter : Expr} {body : List Stmt} {ci : CI} {t : Tgt} {cb : CS} (hp : PassesOwn (model X.prog X.w) X.A X.env X.xe) (hc : X.calm = true) (hi : PI X tg iter (tI T E ci)) (hg : PG X tg (den T.K t)) (hb : PSs X body (tS T E cb))
    (hs : ∀ x, foldedSetIterable iter X.env x = pure x := by intro _; rfl) : PS X (.For tg iter body [] pos) (tS T E (cFor ci t cb)) :=
  PS.imp (ps_for hp hc hi hg hb hs) fun D σ H q => by
    obtain ⟨ι, A, ρ, at0, p⟩ := q
    refine ⟨ι, A, ρ, at0, ?_⟩
    unfold cFor at p
    cases e1 : ci ρ A with
    | bad => rw [e1] at p; exact p
    | exc k A' => rw [e1] at p; exact p
    | ok pw A1 =>
      rw [e1] at p
      intro ι1 H1 J n hJ hseen
      simp only at p
      have hb1 := Nat.le_trans at0.bl (n.le at0.wd)
      refine ⟨fun i m σ2 H2 => m = pw.1.length - i ∧ i ≤ pw.1.length ∧ ∃ ι2 A2 s2, Nx T ρ.b ι1 A1 H1 ι2 A2 H2 ∧ Er T ι2 H2 σ2 s2 ∧ seen pw.2 A2 = true ∧ PoS T ρ.b ι A H (forL t cb pw.2 ρ.b (pw.1.drop i) s2 A2) D E,
        ⟨pw.1.length, by simp, Nat.zero_le _, ι1, A1, ρ.s, .refl n.wd, at0.er.mono n.ext, hseen, p⟩, ?_⟩
      rintro i m σ2 H2 ⟨rfl, hi, ι2, A2, s2, n2, er2, hs2, po⟩
      have hJ2 := hJ ι2 A2 H2 n2 hs2
      by_cases hlt : i < pw.1.length
      · obtain ⟨hgo, hy⟩ := hJ2.1 i pw.1[i] (List.getElem?_eq_getElem hlt)
        refine .inr ⟨hgo, fun σ3 H3 => i + 1 ≤ pw.1.length ∧ ∃ ι2 A2 s2, Nx T ρ.b ι1 A1 H1 ι2 A2 H3 ∧ Er T ι2 H3 σ3 s2 ∧ seen pw.2 A2 = true ∧ PoS T ρ.b ι A H (forL t cb pw.2 ρ.b (pw.1.drop (i + 1)) s2 A2) D E, fun σ3 H3 h3 => ⟨pw.1.length - (i + 1), by omega, rfl, h3.1, h3.2⟩, fun x H3 hx => ?_⟩
        obtain ⟨rx, nx⟩ := hy x H3 hx
        have n3 := n2.trans nx
        rw [List.drop_eq_getElem_cons hlt, forL] at po
        cases hpt : put t pw.1[i] s2 with
        | none => rw [hpt] at po; exact False.elim po
        | some s3 =>
          rw [hpt] at po
          refine den_ok t pw.1[i] x s2 s3 σ2 _ (er2.mono nx.ext) rx hpt fun σ3 er3 _ => ?_
          refine ⟨ι2, A2, ⟨ρ.b, s3⟩, ⟨n3.wd, er3, Nat.le_trans hb1 (n3.le n.wd)⟩, ?_⟩
          dsimp only at po ⊢
          have n03 := n.trans n3
          cases eb : cb ⟨ρ.b, s3⟩ A2 with
          | bad => rw [eb] at po; exact False.elim po
          | exc k A' => rw [eb] at po; exact fun ι' H' m => po ι' H' (n03.trans m)
          | rt d A' => rw [eb] at po; exact fun ι' H' v fp m r f => po ι' H' v fp (n03.trans m) r (f.back n03.ext)
          | nx s4 A4 =>
            rw [eb] at po
            intro ι4 H4 σ4 n4 er4
            simp only at po
            split at po
            · rename_i hs4
              exact ⟨hlt, ι4, A4, s4, n3.trans n4, er4, hs4, po⟩
            · exact False.elim po
      · have hi2 : i = pw.1.length := by omega
        subst hi2
        refine .inl ⟨hJ2.2 _ (Nat.le_refl _), ?_⟩
        rw [List.drop_length, forL] at po
        exact po ι2 H2 σ2 (n.trans n2) er2
theorem gs_while {fuel : Nat} {t : CT} {body : List Stmt} {cb : CS} (hp : PassesOwn (model X.prog X.w) X.A X.env X.xe) (hc : PT X e (tT T E t)) (hb : PSs X body (tS T E cb)) : PS X (.While e body [] pos) (tS T E (cWhile fuel t cb)) :=
  PS.imp (ps_while hp hc hb) fun D σ H q => by
    obtain ⟨ι, A, ρ, at0, p⟩ := q
    refine ⟨fun m σ2 H2 => ∃ ι2 A2 s2, Nx T ρ.b ι A H ι2 A2 H2 ∧ Er T ι2 H2 σ2 s2 ∧ PoS T ρ.b ι A H (whileL t cb ρ.b m s2 A2) D E, ⟨fuel, ι, A, ρ.s, .refl at0.wd, at0.er, p⟩, ?_⟩
    rintro m σ2 H2 ⟨ι2, A2, s2, n2, er2, po⟩
    have at2 : At T σ2 H2 ι2 A2 ⟨ρ.b, s2⟩ := ⟨n2.wd, er2, Nat.le_trans at0.bl (n2.le at0.wd)⟩
    refine ⟨ι2, A2, ⟨ρ.b, s2⟩, at2, ?_⟩
    cases m with
    | zero => exact False.elim po
    | succ m =>
      rw [whileL] at po
      dsimp only
      cases et : t ⟨ρ.b, s2⟩ A2 with
      | bad => rw [et] at po; exact po
      | exc k A' => rw [et] at po; exact fun ι' H' m => po ι' H' (n2.trans m)
      | ok kk A3 =>
        rw [et] at po
        intro ι3 H3 n3
        cases kk with
        | false =>
          rw [if_neg Bool.false_ne_true]
          exact po ι3 H3 σ2 (n2.trans n3) (er2.mono n3.ext)
        | true =>
          rw [if_pos rfl]
          refine ⟨fun σ4 H4 => ∃ ι2 A2 s2, Nx T ρ.b ι A H ι2 A2 H4 ∧ Er T ι2 H4 σ4 s2 ∧ PoS T ρ.b ι A H (whileL t cb ρ.b m s2 A2) D E, fun σ4 H4 h4 => ⟨m, Nat.lt_succ_self _, h4⟩, ι3, A3, ⟨ρ.b, s2⟩, at2.next n3, ?_⟩
          simp only at po
          have n03 := n2.trans n3
          dsimp only
          cases eb : cb ⟨ρ.b, s2⟩ A3 with
          | bad => rw [eb] at po; exact False.elim po
          | exc k A' => rw [eb] at po; exact fun ι' H' m => po ι' H' (n03.trans m)
          | rt d A' => rw [eb] at po; exact fun ι' H' v fp m r f => po ι' H' v fp (n03.trans m) r (f.back n03.ext)
          | nx s4 A4 =>
            rw [eb] at po
            exact fun ι4 H4 σ4 n4 er4 => ⟨ι4, A4, s4, n03.trans n4, er4, po⟩
end
end Ab

set_option Elab.async false
set_option linter.all false
set_option maxRecDepth 100000
set_option maxHeartbeats 1000000
set_option autoImplicit false
/-! Ab10: chains, module constants, the end of a def. -/
namespace Ab
open PySem PySem.Spec PyProof.Rows L2

def cCh (g g' : Int → Int → Bool) (ca cb cc : CE) : CE := fun ρ A => (ca ρ A).bind fun x A1 => (cb ρ A1).bind fun y A2 => match x, y with
  | .int i, .int j => if g i j = true then (cc ρ A2).bind fun z A3 => (match z with
      | .int k => .ok (.bl (g' j k)) A3
      | _ => .bad) else .ok (.bl false) A2
  | _, _ => .bad
section
variable {X : Cx} {T : Tb} {E : XE} {a b c : Expr} {pos : Pos} {ca cb cc : CE} {op op' : CmpOp} {g g' : Int → Int → Bool}
theorem ch_ok {σ : L2.St} {H : Hp} {Q : VK} (h : tE T E (cCh g g' ca cb cc) σ H Q) : tChain (rI0 fun i j => .bl (g i j)) (rI0 fun i j => .bl (g' i j)) (tE T E ca) (tE T E cb) (tE T E cc) σ H Q := by
  obtain ⟨ι, A, ρ, at0, p⟩ := h
  refine ⟨ι, A, ρ, at0, ?_⟩
  unfold cCh at p
  cases e : ca ρ A with
  | bad => rw [e] at p; exact p
  | exc k A' => rw [e] at p; exact p
  | ok x A1 =>
    rw [e] at p
    intro ι1 H1 v fp n r f
    refine ⟨ι1, A1, ρ, at0.next n, ?_⟩
    simp only [Res.bind] at p
    cases e2 : cb ρ A1 with
    | bad => rw [e2] at p; exact p
    | exc k A' => rw [e2] at p; exact fun ι' H' m => p ι' H' (n.trans m)
    | ok y A2 =>
      rw [e2] at p
      intro ι2 H2 w fq n2 r2 f2
      simp only at p
      split at p
      · rename_i i j
        cases r; cases r2
        refine ⟨i, j, rfl, rfl, g i j, rfl, ?_⟩
        split at p
        · rename_i hg
          rw [hg, if_pos rfl]
          refine ⟨ι2, A2, ρ, (at0.next n).next n2, ?_⟩
          cases e3 : cc ρ A2 with
          | bad => rw [e3] at p; exact p
          | exc k A' => rw [e3] at p; exact fun ι' H' m => p ι' H' ((n.trans n2).trans m)
          | ok z A3 =>
            rw [e3] at p
            intro ι3 H3 u fz n3 r3 f3
            simp only at p
            split at p
            · rename_i k
              cases r3
              exact ⟨j, k, rfl, rfl, p ι3 H3 _ [] ((n.trans n2).trans n3) (.bl _) .nil⟩
            · exact p.elim
        · rename_i hg
          rw [if_neg hg]
          exact p ι2 H2 _ [] (n.trans n2) (.bl _) .nil
      · exact p.elim
theorem ge_ch (ho : OpR X (compareOp op) (rI0 fun i j => .bl (g i j))) (ho' : OpR X (compareOp op') (rI0 fun i j => .bl (g' i j))) (ha : PE X a (tE T E ca)) (hb : PE X b (tE T E cb)) (hc : PE X c (tE T E cc))
    (hm : lastMarks [op, op'] [b, c] = false := by with_unfolding_all rfl) : PE X (.Compare a [op, op'] [b, c] pos) (tE T E (cCh g g' ca cb cc)) :=
  PE.imp (pe_chain ho ho' ha hb hc hm) fun σ H Q q => ch_ok q
theorem gt_ch (ho : OpR X (compareOp op) (rI0 fun i j => .bl (g i j))) (ho' : OpR X (compareOp op') (rI0 fun i j => .bl (g' i j))) (ha : PE X a (tE T E ca)) (hb : PE X b (tE T E cb)) (hc : PE X c (tE T E cc))
    (hm : lastMarks [op, op'] [b, c] = false := by with_unfolding_all rfl) : PT X (.Compare a [op, op'] [b, c] pos) (tT T E (cTst (cCh g g' ca cb cc))) :=
  PT.imp (pt_chain ho ho' ha hb hc hm) fun σ H Q q => ch_ok (tE_test q)
end
/-- a def without callees' exceptions, at every level -/
theorem fn_zero {P : Program} {w : World} {K : PySem.W.Frag} {mg : Str → Option Value} {base : Heap} {CX : CXT} {f : Addr} {fd : FuncData} {ps : List Str} {T : Tb} {fn : Fn} (h : ∀ ds A, fn ds A = .bad) : FnOk P w K mg base CX 0 f fd ps (spF T fn ps.length) :=
  ⟨fun _ _ _ _ h => h.1, fun A outer s H args us vs Q E hr e0 hb r q => by
    obtain ⟨_, ι, A, ds, _, _, p⟩ := q
    rw [h] at p
    exact False.elim p⟩
theorem fn_zero0 {P : Program} {w : World} {K : PySem.W.Frag} {mg : Str → Option Value} {base : Heap} {CX : CXT} {f : Addr} {fd : FuncData} {ps : List Str} {T : Tb} {fn : Fn} (h : ∀ ds A, fn ds A = .bad) : FnOk P w K mg base CX 0 f fd ps (spF0 T fn ps.length) :=
  FnOk.imp (sp := spF T fn ps.length) (fn_zero h) fun vs H Q E q => by
    obtain ⟨h1, ι, A, ds, h2, h3, p⟩ := q
    rw [h] at p
    exact False.elim p
/-- where a def stands -/
structure Dn (K : PySem.W.Frag) (mg : Str → Option Value) (x : Str) (st : Stmt) (ps : List Str) (f : Addr) (fd : FuncData) : Prop where
  F : Fun K x x st f fd
  b : Binds K fd ps []
  g : mg x = some (.ref f)
/-- the law's own promise -/
theorem law_end {T : Tb} {f : Fn} {a : Addr} {ns : List Int} {H : Hp} (hO : Only H) (hS : SqL T.K H a (ns.map V.int)) (h : ∃ A, f [.rol (ns.map Vl.int)] [] = .ok (.bl true) A) : spF0 T f 1 [.ref a] H (fun v _ => v = .bl true) fun _ _ _ => False := by
  refine ⟨rfl, [], [], [.rol (ns.map Vl.int)], ⟨rfl, List.nodup_nil, fun n k xs a h => by simp at h⟩, Rps.one (.rol (vs := ns.map V.int) ?_ (rps_ints ns)), ?_⟩
  · rcases hS with (h | h) | h
    · rcases hO a with z | ⟨o, xs, z⟩
      · rw [h] at z; cases z
      · rw [h] at z; cases z
    · exact .inl h
    · exact .inr h
  · obtain ⟨A, e⟩ := h
    rw [e]
    intro ι' H' v fp n r f
    cases r
    rfl
end Ab

set_option Elab.async false
set_option linter.all false
set_option maxRecDepth 100000
set_option maxHeartbeats 1000000
set_option autoImplicit false
/-! Ab11: module constants, lists repeated. -/
namespace Ab
open PySem PySem.Spec PyProof.Rows L2
theorem in_room {k : Nat} {A : Around} (r : Room k A) : A.units + 65 < cLine := by have := r.un; omega
theorem ge_gi {X : Cx} {T : Tb} {E : XE} {x : Str} {i : Int} {pos : Pos} (hg : Gl X x) (hm : ∃ t, X.mg x = some (.int i t)) (hd : (x == ("__debug__" : Str)) = false := by decide) : PE X (.Name x pos) (tE T E (cC (.int i))) := by
  obtain ⟨t, h⟩ := hm
  exact ge_c (v := .int i) (pe_glob hg h (show RelV (.int i) (.int i t) from ⟨t, rfl⟩) hd) fun _ _ => .int i
theorem rps_plain_nil {T : Tb} {ι : List Addr} {H : Hp} {xs : List Vl} {vs : List V} {fp : List Addr} (h : Rps T ι H vs xs fp) (p : plains xs = true) : Rps T ι H vs xs [] := by
  have := Rps.fp_plain xs vs fp h p
  subst this
  exact h
theorem rps_rep {T : Tb} {ι : List Addr} {H : Hp} {xs : List Vl} {vs : List V} (h : Rps T ι H vs xs []) : ∀ n : Nat, Rps T ι H (List.replicate n vs).flatten (List.replicate n xs).flatten []
  | 0 => .nil
  | n + 1 => by
    rw [List.replicate_succ, List.replicate_succ, List.flatten_cons, List.flatten_cons]
    exact Rps.append (fp := []) (fq := []) h (rps_rep h n)
theorem sf_mul {T : Tb} : SF T (r2 fun x y H Q => rI CMulB (fun i j => .int (i * j)) x y H Q ∨ rRep x y H Q) fMul := by
  intro b ι A H ι1 A1 H1 vs ds fp Q E w hb n r f p
  unfold fMul at p
  split at p
  · rename_i i j
    obtain ⟨v, w, f1, f2, rfl, rfl, q1, q2⟩ := r.two_inv
    cases q1; cases q2
    split at p
    · rename_i hc
      exact ⟨_, _, rfl, .inl ⟨i, j, rfl, rfl, hc, p ι1 H1 _ [] n (.int _) .nil⟩⟩
    · exact p.elim
  · rename_i x j _
    obtain ⟨v, u, f1, f2, rfl, rfl, q1, q2⟩ := r.two_inv
    cases q2
    split at p
    · exact p.elim
    · rename_i xs ex
      split at p
      · rename_i hc
        obtain ⟨a, as, g1, rfl, h1, h2, h3⟩ := mutL_ok n.wd q1 ex
        have h4 := rps_plain_nil h2 hc.1
        exact ⟨_, _, rfl, .inr ⟨a, j, as, rfl, rfl, h1, by omega, by omega, by rw [h2.len]; exact size_ok hc.2.2.2, fun q hq => new_ok n (rps_rep h4 j.toNat) .nil hq p⟩⟩
      · exact p.elim
  · exact p.elim
end Ab

set_option Elab.async false
set_option linter.all false
set_option maxRecDepth 100000
set_option maxHeartbeats 1000000
set_option autoImplicit false
/-! Ab12: raise. -/
namespace Ab
open PySem PySem.Spec PyProof.Rows L2
def cRaise (c : Nat) : CS := fun _ A => .exc c A
theorem gs_raise0 {X : Cx} {T : Tb} {st : Stmt} {c : Nat} : PS X st (tS T EF (cRaise c)) :=
  PS.imp ps_never fun D σ H q => by
    obtain ⟨ι, A, ρ, a, p⟩ := q
    exact p ι H (.refl a.wd)
end Ab

set_option Elab.async false
set_option linter.all false
set_option maxRecDepth 100000
set_option maxHeartbeats 4000000
namespace G
open PySem PySem.Spec PyProof.Rows L2 Ab
def c_is_whole (R : Nat → Fn) : CS :=
  (cRet (cAndV (cF1 (fIsi .int) (cVar 0)) (cAndV (cNotV (cF1 (fIsi .bl) (cVar 0))) (cF2 fGe (cVar 0) (cVar 1)))))
def c_check_street_e0 (R : Nat → Fn) : CE :=
  (cCall (R 0) (cCons (cVar 1) (cCons (cC (.int 0)) cNil)))
def c_check_street (R : Nat → Fn) : CS :=
  (cIf (cOr (cNot (cTst (cF1 (fIsi .lst) (cVar 0)))) (cOr (cNot (cTst (cCh (fun i j => decide (i ≤ j)) (fun i j => decide (i ≤ j)) (cC (.int 1)) (cF fLen (cCons (cVar 0) cNil)) (cC (.int 60))))) (cNot (cTst (cF fAll (cCons (cLc (cIt (cVar 0)) (.nm 1) cYes (c_check_street_e0 R) [1]) cNil))))))
  (cRaise 1)
  cNx)
def c_many_of (R : Nat → Fn) : CS :=
  (cRet (cF2 fAdd (cF fLen (cCons (cVar 0) cNil)) (cF fSum (cCons (cVar 0) cNil))))
def c_ahead_of_b0 (R : Nat → Fn) : CS :=
  (cSeq (cAug 2 (fun i j => i + j) (cIfE (cTst (cF2 (fEqD false) (cF2 fMod (cVar 4) (cC (.int 2))) (cC (.int 0)))) (cC (.int 1)) (cVar 5)))
  (cAug 3 (fun i j => i + j) (cIfE (cTst (cF2 (fEqD false) (cF2 fMod (cVar 4) (cC (.int 2))) (cC (.int 0)))) (cVar 5) (cC (.int 1)))))
def c_ahead_of (R : Nat → Fn) : CS :=
  (cSeq (cPut (.tp [(.nm 2), (.nm 3)]) (cTup (cCons (cC (.int 0)) (cCons (cC (.int 0)) cNil))))
  (cSeq (cFor (cEn (cSl (cVar 0) none (some (cVar 1)))) (.tp [(.nm 4), (.nm 5)]) (c_ahead_of_b0 R))
  (cRet (cTup (cCons (cVar 2) (cCons (cVar 3) cNil))))))
def c_number_at (R : Nat → Fn) : CS :=
  (cSeq (cPut (.tp [(.nm 3), (.nm 4)]) (cCall (R 3) (cCons (cVar 0) (cCons (cVar 1) cNil))))
  (cSeq (cIf (cTst (cF2 (fEqD false) (cF2 (fEqD false) (cF2 fMod (cVar 1) (cC (.int 2))) (cC (.int 0))) (cF2 (fEqD false) (cVar 2) (cC (.int 0)))))
  (cRet (cF2 fAdd (cVar 3) (cF fMax (cCons (cC (.int 0)) (cCons (cF2 fSub (cVar 2) (cC (.int 1))) cNil)))))
  cNx)
  (cRet (cF2 fSub (cF2 fSub (cF2 fSub (cCall (R 2) (cCons (cVar 0) cNil)) (cC (.int 1))) (cVar 4)) (cF fMax (cCons (cC (.int 0)) (cCons (cF2 fSub (cVar 2) (cC (.int 1))) cNil)))))))
def c_houses_of (R : Nat → Fn) : CS :=
  (cSeq (cDrop (cCall (R 1) (cCons (cVar 0) cNil)))
  (cRet (cCall (R 2) (cCons (cVar 0) cNil))))
def c_number_of_e0 (R : Nat → Fn) : CE :=
  (cCall (R 0) (cCons (cVar 2) (cCons (cC (.int 0)) cNil)))
def c_number_of (R : Nat → Fn) : CS :=
  (cSeq (cDrop (cCall (R 1) (cCons (cVar 0) cNil)))
  (cSeq (cIf (cOr (cNot (cTst (cF1 (fIsi .tup) (cVar 1)))) (cOr (cTst (cF2 (fEqD true) (cF fLen (cCons (cVar 1) cNil)) (cC (.int 2)))) (cNot (cTst (cF fAll (cCons (cLc (cIt (cVar 1)) (.nm 2) cYes (c_number_of_e0 R) [2]) cNil))))))
  (cRaise 2)
  cNx)
  (cSeq (cIf (cOr (cTst (cF2 fGe (cF2 fIx (cVar 1) (cC (.int 0))) (cF fLen (cCons (cVar 0) cNil)))) (cTst (cF2 fGt (cF2 fIx (cVar 1) (cC (.int 1))) (cF2 fIx (cVar 0) (cF2 fIx (cVar 1) (cC (.int 0)))))))
  (cRaise 2)
  cNx)
  (cRet (cCall (R 4) (cCons (cVar 0) (cCons (cF2 fIx (cVar 1) (cC (.int 0))) (cCons (cF2 fIx (cVar 1) (cC (.int 1))) cNil))))))))
def c_house_of_b0 (R : Nat → Fn) : CS :=
  (cSeq (cPut (.nm 8) (cIfE (cTst (cF2 (fEqD false) (cF2 fMod (cVar 6) (cC (.int 2))) (cVar 4))) (cC (.int 1)) (cVar 7)))
  (cSeq (cIf (cTst (cF2 fLt (cVar 5) (cVar 8)))
  (cRet (cTup (cCons (cVar 6) (cCons (cIfE (cTst (cF2 (fEqD false) (cF2 fMod (cVar 6) (cC (.int 2))) (cVar 4))) (cC (.int 0)) (cF2 fAdd (cVar 5) (cC (.int 1)))) cNil))))
  cNx)
  (cAug 5 (fun i j => i - j) (cVar 8))))
def c_house_of (R : Nat → Fn) : CS :=
  (cSeq (cDrop (cCall (R 1) (cCons (cVar 0) cNil)))
  (cSeq (cPut (.nm 2) (cCall (R 2) (cCons (cVar 0) cNil)))
  (cSeq (cIf (cOr (cNot (cTst (cCall (R 0) (cCons (cVar 1) (cCons (cC (.int 0)) cNil))))) (cTst (cF2 fGe (cVar 1) (cVar 2))))
  (cRaise 3)
  cNx)
  (cSeq (cPut (.nm 3) (cF2 fIx (cCall (R 3) (cCons (cVar 0) (cCons (cF fLen (cCons (cVar 0) cNil)) cNil))) (cC (.int 0))))
  (cSeq (cPut (.nm 4) (cIfE (cTst (cF2 fLt (cVar 1) (cVar 3))) (cC (.int 0)) (cC (.int 1))))
  (cSeq (cPut (.nm 5) (cIfE (cTst (cF2 (fEqD false) (cVar 4) (cC (.int 0)))) (cVar 1) (cF2 fSub (cF2 fSub (cVar 2) (cC (.int 1))) (cVar 1))))
  (cSeq (cFor (cEn (cVar 0)) (.tp [(.nm 6), (.nm 7)]) (c_house_of_b0 R))
  (cRet (cC .non)))))))))
def c_road_of_b0 (R : Nat → Fn) : CS :=
  (cSeq (cIf (cTst (cF2 fLt (cVar 3) (cVar 5)))
  (cRet (cTup (cCons (cTup (cCons (cVar 4) (cCons (cC (.int 0)) cNil))) (cCons (cTup (cCons (cVar 4) (cCons (cF2 fAdd (cVar 3) (cC (.int 1))) cNil))) cNil))))
  cNx)
  (cSeq (cIf (cTst (cF2 (fEqD false) (cVar 3) (cVar 5)))
  (cRet (cTup (cCons (cTup (cCons (cVar 4) (cCons (cC (.int 0)) cNil))) (cCons (cTup (cCons (cF2 fAdd (cVar 4) (cC (.int 1))) (cCons (cC (.int 0)) cNil))) cNil))))
  cNx)
  (cAug 3 (fun i j => i - j) (cF2 fAdd (cVar 5) (cC (.int 1))))))
def c_road_of (R : Nat → Fn) : CS :=
  (cSeq (cDrop (cCall (R 1) (cCons (cVar 0) cNil)))
  (cSeq (cPut (.nm 2) (cCall (R 2) (cCons (cVar 0) cNil)))
  (cSeq (cIf (cOr (cNot (cTst (cCall (R 0) (cCons (cVar 1) (cCons (cC (.int 1)) cNil))))) (cTst (cF2 fGe (cVar 1) (cVar 2))))
  (cRaise 3)
  cNx)
  (cSeq (cPut (.nm 3) (cF2 fSub (cF2 fSub (cVar 2) (cC (.int 1))) (cVar 1)))
  (cSeq (cFor (cEn (cVar 0)) (.tp [(.nm 4), (.nm 5)]) (c_road_of_b0 R))
  (cRet (cC .non)))))))
def c__law_number (R : Nat → Fn) : CS :=
  (cSeq (cIf (cTst (cF2 fGe (cVar 0) (cF2 fPow (cC (.int 10)) (cC (.int 18)))))
  (cRet (cVar 0))
  cNx)
  (cSeq (cPut (.nm 3) (cF2 fMod (cF2 fAdd (cF2 fMul (cF2 fAdd (cVar 0) (cF2 fMul (cC (.int 977)) (cVar 1))) (cC (.int 48271))) (cVar 2)) (cC (.int 2147483647))))
  (cSeq (cPut (.nm 4) (cF2 fMul (cF2 fMul (cVar 3) (cF2 fAdd (cF2 fAdd (cVar 3) (cF2 fMul (cC (.int 31)) (cVar 1))) (cC (.int 7)))) (cF2 fAdd (cF2 fAdd (cVar 3) (cVar 0)) (cC (.int 5)))))
  (cRet (cF2 fDiv (cF2 fMul (cVar 4) (cF2 fAdd (cVar 4) (cC (.int 48271)))) (cC (.int 1009)))))))
def c__law_whole (R : Nat → Fn) : CS :=
  (cRet (cAndV (cF1 (fIsi .int) (cVar 0)) (cNotV (cF1 (fIsi .bl) (cVar 0)))))
def c__law_street_e0 (R : Nat → Fn) : CE :=
  (cF2 fMod (cF2 fDiv (cCall (R 34) (cCons (cF2 fIx (cVar 2) (cF2 fMod (cF2 fAdd (cVar 6) (cVar 1)) (cF fLen (cCons (cVar 2) cNil)))) (cCons (cF2 fAdd (cVar 6) (cVar 1)) (cCons (cVar 3) cNil)))) (cC (.int 3))) (cVar 5))
def c__law_street (R : Nat → Fn) : CS :=
  (cSeq (cPut (.nm 2) (cIfE (cTst (cF2 (fEqD true) (cVar 0) (cLst cNil))) (cSl (cVar 0) none (some (cC (.int 63)))) (cLst (cCons (cC (.int 3)) cNil))))
  (cSeq (cPut (.nm 3) (cF2 fAdd (cF fSum (cCons (cVar 2) cNil)) (cVar 1)))
  (cSeq (cPut (.nm 4) (cF2 fIx (cTup (cCons (cF2 fAdd (cC (.int 1)) (cF2 fMod (cVar 3) (cC (.int 6)))) (cCons (cF2 fAdd (cC (.int 1)) (cF2 fMod (cF2 fDiv (cVar 3) (cC (.int 12))) (cC (.int 60)))) cNil))) (cF2 fMod (cF2 fDiv (cVar 3) (cC (.int 6))) (cC (.int 2)))))
  (cSeq (cPut (.nm 5) (cF2 fIx (cTup (cCons (cC (.int 3)) (cCons (cC (.int 6)) (cCons (cF2 fPow (cC (.int 10)) (cC (.int 6))) (cCons (cF2 fPow (cC (.int 10)) (cC (.int 40))) cNil))))) (cF2 fMod (cF2 fDiv (cVar 3) (cC (.int 720))) (cC (.int 4)))))
  (cRet (cLc (cRg1 (cVar 4)) (.nm 6) cYes (c__law_street_e0 R) [6]))))))
def c__law_some_house (R : Nat → Fn) : CS :=
  (cSeq (cPut (.nm 2) (cF2 fMod (cVar 1) (cF fLen (cCons (cVar 0) cNil))))
  (cRet (cTup (cCons (cVar 2) (cCons (cF2 fMod (cF2 fDiv (cVar 1) (cC (.int 61))) (cF2 fAdd (cF2 fIx (cVar 0) (cVar 2)) (cC (.int 1)))) cNil)))))
def c__law_is_house (R : Nat → Fn) : CS :=
  (cSeq (cIf (cOr (cNot (cTst (cF1 (fIsi .tup) (cVar 1)))) (cOr (cTst (cF2 (fEqD true) (cF fLen (cCons (cVar 1) cNil)) (cC (.int 2)))) (cOr (cNot (cTst (cCall (R 35) (cCons (cF2 fIx (cVar 1) (cC (.int 0))) cNil)))) (cNot (cTst (cCall (R 35) (cCons (cF2 fIx (cVar 1) (cC (.int 1))) cNil)))))))
  (cRet (cC (.bl false)))
  cNx)
  (cRet (cAndV (cCh (fun i j => decide (i ≤ j)) (fun i j => decide (i < j)) (cC (.int 0)) (cF2 fIx (cVar 1) (cC (.int 0))) (cF fLen (cCons (cVar 0) cNil))) (cCh (fun i j => decide (i ≤ j)) (fun i j => decide (i ≤ j)) (cC (.int 0)) (cF2 fIx (cVar 1) (cC (.int 1))) (cF2 fIx (cVar 0) (cF2 fIx (cVar 1) (cC (.int 0))))))))
def c__law_every_e0 (R : Nat → Fn) : CE :=
  (cTup (cCons (cVar 2) (cCons (cVar 4) cNil)))
def c__law_every_b1 (R : Nat → Fn) : CS :=
  (cPut (.nm 1) (cF2 fAdd (cVar 1) (cLc (cRg1 (cF2 fAdd (cVar 3) (cC (.int 1)))) (.nm 4) cYes (c__law_every_e0 R) [4])))
def c__law_every (R : Nat → Fn) : CS :=
  (cSeq (cPut (.nm 1) (cLst cNil))
  (cSeq (cFor (cEn (cVar 0)) (.tp [(.nm 2), (.nm 3)]) (c__law_every_b1 R))
  (cRet (cVar 1))))
end G

set_option linter.all false
set_option autoImplicit false
namespace M
/-- what a spot has of low numbers, of high ones, of differences -/
def gLow (i : Nat) (c : Int) : Int := if i % 2 = 0 then 1 else c
def gHigh (i : Nat) (c : Int) : Int := if i % 2 = 0 then c else 1
def gRoad (_ : Nat) (c : Int) : Int := c + 1
def tot (g : Nat → Int → Int) : Nat → List Int → Int
  | _, [] => 0
  | k, x :: r => g k x + tot g (k + 1) r
def find (g : Nat → Int → Int) : Nat → List Int → Int → Option (Nat × Int)
  | _, [], _ => none
  | k, x :: r, left => if left < g k x then some (k, left) else find g (k + 1) r (left - g k x)
theorem find_some (g : Nat → Int → Int) : ∀ (xs : List Int) (k : Nat) (left : Int), 0 ≤ left → left < tot g k xs →
    ∃ j c r, find g k xs left = some (k + j, r) ∧ xs[j]? = some c ∧ left = tot g k (xs.take j) + r ∧ 0 ≤ r ∧ r < g (k + j) c
  | [], k, left, h0, h1 => by simp [tot] at h1; omega
  | x :: xs, k, left, h0, h1 => by
    unfold find
    split
    · rename_i h
      exact ⟨0, x, left, rfl, rfl, by simp [tot], h0, h⟩
    · rename_i h
      obtain ⟨j, c, r, e1, e2, e3, e4, e5⟩ := find_some g xs (k + 1) (left - g k x) (by omega) (by simp [tot] at h1; omega)
      refine ⟨j + 1, c, r, ?_, by simpa using e2, ?_, e4, ?_⟩
      · rw [e1]; simp; omega
      · simp [tot]; omega
      · rw [show k + (j + 1) = k + 1 + j by omega]; exact e5
theorem tot_nonneg (g : Nat → Int → Int) (hg : ∀ i c, 0 ≤ c → 0 ≤ g i c) : ∀ (xs : List Int) (k : Nat), (∀ x ∈ xs, 0 ≤ x) → 0 ≤ tot g k xs
  | [], _, _ => by simp [tot]
  | x :: xs, k, h => by
    have h1 := hg k x (h x (by simp))
    have h2 := tot_nonneg g hg xs (k + 1) fun y hy => h y (by simp [hy])
    simp [tot]; omega
theorem find_at (g : Nat → Int → Int) (hg : ∀ i c, 0 ≤ c → 0 ≤ g i c) : ∀ (xs : List Int) (k j : Nat) (c r : Int), (∀ x ∈ xs, 0 ≤ x) → xs[j]? = some c → 0 ≤ r → r < g (k + j) c → find g k xs (tot g k (xs.take j) + r) = some (k + j, r)
  | [], _, _, _, _, _, h, _, _ => by simp at h
  | x :: xs, k, 0, c, r, hp, h, h0, h1 => by
    simp at h; subst h
    unfold find
    simp [tot] at h1 ⊢
    omega
  | x :: xs, k, j + 1, c, r, hp, h, h0, h1 => by
    have hx := hg k x (hp x (by simp))
    have ht := tot_nonneg g hg (xs.take j) (k + 1) fun y hy => hp y (by simp [List.mem_of_mem_take hy])
    have ih := find_at g hg xs (k + 1) j c r (fun y hy => hp y (by simp [hy])) (by simpa using h) h0 (by rw [show k + 1 + j = k + (j + 1) by omega]; exact h1)
    unfold find
    simp only [List.take_succ_cons, tot]
    rw [if_neg (by omega)]
    rw [show g k x + tot g (k + 1) (List.take j xs) + r - g k x = tot g (k + 1) (List.take j xs) + r by omega, ih]
    simp; omega
theorem tot_split (g : Nat → Int → Int) (hg : ∀ i c, 0 ≤ c → 0 ≤ g i c) : ∀ (xs : List Int) (k j : Nat) (c : Int), (∀ x ∈ xs, 0 ≤ x) → xs[j]? = some c → tot g k (xs.take j) + g (k + j) c ≤ tot g k xs
  | [], _, _, _, _, h => by simp at h
  | x :: xs, k, 0, c, hp, h => by
    simp at h; subst h
    have := tot_nonneg g hg xs (k + 1) fun y hy => hp y (by simp [hy])
    simp [tot]; omega
  | x :: xs, k, j + 1, c, hp, h => by
    have := tot_split g hg xs (k + 1) j c (fun y hy => hp y (by simp [hy])) (by simpa using h)
    rw [show k + 1 + j = k + (j + 1) by omega] at this
    simp [tot]; omega
theorem tot_take_succ (g : Nat → Int → Int) : ∀ (xs : List Int) (k j : Nat) (c : Int), xs[j]? = some c → tot g k (xs.take (j + 1)) = tot g k (xs.take j) + g (k + j) c
  | [], _, _, _, h => by simp at h
  | x :: xs, k, 0, c, h => by simp at h; subst h; simp [tot]
  | x :: xs, k, j + 1, c, h => by
    have := tot_take_succ g xs (k + 1) j c (by simpa using h)
    rw [show k + 1 + j = k + (j + 1) by omega] at this
    rw [List.take_succ_cons, List.take_succ_cons, tot, tot, this]; omega
theorem tot_lh : ∀ (xs : List Int) (k : Nat), tot gLow k xs + tot gHigh k xs = tot gRoad k xs
  | [], _ => by simp [tot]
  | x :: xs, k => by
    have := tot_lh xs (k + 1)
    simp only [tot]
    have e : gLow k x + gHigh k x = gRoad k x := by unfold gLow gHigh gRoad; split <;> omega
    omega
theorem tot_road : ∀ (xs : List Int) (k : Nat), tot gRoad k xs = xs.length + xs.sum
  | [], _ => by simp [tot]
  | x :: xs, k => by
    have := tot_road xs (k + 1)
    simp only [tot, List.length_cons, List.sum_cons, gRoad]; omega
def many (xs : List Int) : Int := xs.length + xs.sum
def mx (p : Int) : Int := if p - 1 > 0 then p - 1 else 0
def numAt (xs : List Int) (s : Nat) (p : Int) : Int :=
  if ((s % 2 = 0) ↔ (p = 0)) then tot gLow 0 (xs.take s) + mx p else many xs - 1 - tot gHigh 0 (xs.take s) - mx p
def side (xs : List Int) (m : Int) : Int := if m < tot gLow 0 xs then 0 else 1
def gS (sd : Int) (i : Nat) (c : Int) : Int := if ((i : Int) % 2 = sd) then 1 else c
def houseOf (xs : List Int) (m : Int) : Option (Nat × Int) :=
  (find (gS (side xs m)) 0 xs (if side xs m = 0 then m else many xs - 1 - m)).map fun q => (q.1, if ((q.1 : Int) % 2 = side xs m) then 0 else q.2 + 1)
theorem gS0 : gS 0 = gLow := by funext i c; unfold gS gLow; split <;> split <;> omega
theorem gS1 : gS 1 = gHigh := by funext i c; unfold gS gHigh; split <;> split <;> omega
theorem gLow_nn : ∀ i c, 0 ≤ c → 0 ≤ gLow i c := fun i c h => by unfold gLow; split <;> omega
theorem gHigh_nn : ∀ i c, 0 ≤ c → 0 ≤ gHigh i c := fun i c h => by unfold gHigh; split <;> omega
theorem gRoad_nn : ∀ i c, 0 ≤ c → 0 ≤ gRoad i c := fun i c h => by unfold gRoad; omega
/-- a house of a street -/
def IsH (xs : List Int) (s : Nat) (p : Int) : Prop := ∃ c, xs[s]? = some c ∧ 0 ≤ p ∧ p ≤ c
theorem num_ok {xs : List Int} (hp : ∀ x ∈ xs, 0 ≤ x) {s : Nat} {p : Int} (h : IsH xs s p) : 0 ≤ numAt xs s p ∧ numAt xs s p < many xs ∧ houseOf xs (numAt xs s p) = some (s, p) := by
  obtain ⟨c, hc, h0, h1⟩ := h
  have l1 := tot_split gLow gLow_nn xs 0 s c hp hc
  have l2 := tot_split gHigh gHigh_nn xs 0 s c hp hc
  have l3 := tot_lh xs 0
  have l4 := tot_road xs 0
  have l5 := tot_nonneg gLow gLow_nn (xs.take s) 0 fun y hy => hp y (List.mem_of_mem_take hy)
  have l6 := tot_nonneg gHigh gHigh_nn (xs.take s) 0 fun y hy => hp y (List.mem_of_mem_take hy)
  have hm : many xs = tot gLow 0 xs + tot gHigh 0 xs := by unfold many; omega
  rw [Nat.zero_add] at l1 l2
  have hmx0 : 0 ≤ mx p := by unfold mx; split <;> omega
  unfold numAt
  split
  · rename_i hb
    have hr : mx p < gLow s c := by
      unfold gLow mx
      by_cases hs : s % 2 = 0
      · have : p = 0 := hb.mp hs
        rw [if_pos hs]; split <;> omega
      · have : p ≠ 0 := fun z => hs (hb.mpr z)
        rw [if_neg hs]; split <;> omega
    have hf := find_at gLow gLow_nn xs 0 s c (mx p) hp hc hmx0 (by rw [Nat.zero_add]; exact hr)
    have hlt : tot gLow 0 (xs.take s) + mx p < tot gLow 0 xs := by omega
    have hs0 : side xs (tot gLow 0 (xs.take s) + mx p) = 0 := by unfold side; rw [if_pos hlt]
    have hh := tot_nonneg gHigh gHigh_nn xs 0 hp
    refine ⟨by omega, by omega, ?_⟩
    unfold houseOf
    rw [hs0, gS0, if_pos rfl, hf]
    simp only [Option.map_some, Nat.zero_add, Option.some.injEq, Prod.mk.injEq, true_and]
    by_cases hs : s % 2 = 0
    · rw [if_pos (by omega)]; exact (hb.mp hs).symm
    · have : p ≠ 0 := fun z => hs (hb.mpr z)
      rw [if_neg (by omega)]; unfold mx; split <;> omega
  · rename_i hb
    have hr : mx p < gHigh s c := by
      unfold gHigh mx
      by_cases hs : s % 2 = 0
      · have : p ≠ 0 := fun z => hb ⟨fun _ => z, fun _ => hs⟩
        rw [if_pos hs]; split <;> omega
      · have : p = 0 := by
          apply Classical.byContradiction; intro z
          exact hb ⟨fun q => absurd q hs, fun q => absurd q z⟩
        rw [if_neg hs]; split <;> omega
    have hf := find_at gHigh gHigh_nn xs 0 s c (mx p) hp hc hmx0 (by rw [Nat.zero_add]; exact hr)
    have hge : ¬ (many xs - 1 - tot gHigh 0 (xs.take s) - mx p < tot gLow 0 xs) := by omega
    have hs0 : side xs (many xs - 1 - tot gHigh 0 (xs.take s) - mx p) = 1 := by unfold side; rw [if_neg hge]
    have hh := tot_nonneg gLow gLow_nn xs 0 hp
    refine ⟨by omega, by omega, ?_⟩
    unfold houseOf
    rw [hs0, gS1, if_neg (by decide), show many xs - 1 - (many xs - 1 - tot gHigh 0 (List.take s xs) - mx p) = tot gHigh 0 (List.take s xs) + mx p by omega, hf]
    simp only [Option.map_some, Nat.zero_add, Option.some.injEq, Prod.mk.injEq, true_and]
    by_cases hs : s % 2 = 0
    · have : p ≠ 0 := fun z => hb ⟨fun _ => z, fun _ => hs⟩
      rw [if_neg (by omega)]; unfold mx; split <;> omega
    · have : p = 0 := by
        apply Classical.byContradiction; intro z
        exact hb ⟨fun q => absurd q hs, fun q => absurd q z⟩
      rw [if_pos (by omega)]; exact this.symm
theorem house_ok {xs : List Int} (hp : ∀ x ∈ xs, 0 ≤ x) {m : Int} (h0 : 0 ≤ m) (h1 : m < many xs) : ∃ s p, houseOf xs m = some (s, p) ∧ IsH xs s p ∧ numAt xs s p = m := by
  have l3 := tot_lh xs 0
  have l4 := tot_road xs 0
  have hm : many xs = tot gLow 0 xs + tot gHigh 0 xs := by unfold many; omega
  unfold houseOf
  by_cases hl : m < tot gLow 0 xs
  · have hs : side xs m = 0 := by unfold side; rw [if_pos hl]
    obtain ⟨j, c, r, e1, e2, e3, e4, e5⟩ := find_some gLow xs 0 m h0 hl
    rw [hs, gS0, if_pos rfl, e1]
    simp only [Nat.zero_add] at e5 ⊢
    unfold gLow at e5
    by_cases hj : j % 2 = 0
    · refine ⟨j, 0, by simp; omega, ⟨c, e2, by omega, hp c (List.mem_of_getElem? e2)⟩, ?_⟩
      rw [if_pos hj] at e5
      unfold numAt mx
      rw [if_pos (by simp [hj])]; simp; omega
    · rw [if_neg hj] at e5
      refine ⟨j, r + 1, by simp; omega, ⟨c, e2, by omega, by omega⟩, ?_⟩
      unfold numAt mx
      rw [if_pos (by constructor <;> intro z <;> omega)]; split <;> omega
  · have hs : side xs m = 1 := by unfold side; rw [if_neg hl]
    obtain ⟨j, c, r, e1, e2, e3, e4, e5⟩ := find_some gHigh xs 0 (many xs - 1 - m) (by omega) (by omega)
    rw [hs, gS1, if_neg (by decide), e1]
    simp only [Nat.zero_add] at e5 ⊢
    unfold gHigh at e5
    by_cases hj : j % 2 = 0
    · rw [if_pos hj] at e5
      refine ⟨j, r + 1, by simp; omega, ⟨c, e2, by omega, by omega⟩, ?_⟩
      unfold numAt mx
      rw [if_neg (by intro z; have := z.mp hj; omega)]; split <;> omega
    · rw [if_neg hj] at e5
      refine ⟨j, 0, by simp; omega, ⟨c, e2, by omega, hp c (List.mem_of_getElem? e2)⟩, ?_⟩
      unfold numAt mx
      rw [if_neg (by intro z; exact hj (z.mpr rfl))]; simp; omega
/-- roads -/
def roadOf (xs : List Int) (d : Int) : Option ((Nat × Int) × (Nat × Int)) :=
  (find gRoad 0 xs (many xs - 1 - d)).map fun q => ((q.1, 0), if q.2 < xs.getD q.1 0 then (q.1, q.2 + 1) else (q.1 + 1, 0))
def IsR (xs : List Int) (a b : Nat × Int) : Prop := a.2 = 0 ∧ IsH xs a.1 0 ∧ ((b = (a.1 + 1, 0) ∧ IsH xs b.1 0) ∨ (b.1 = a.1 ∧ 0 < b.2 ∧ IsH xs b.1 b.2))
def gap (xs : List Int) (a b : Nat × Int) : Int := numAt xs a.1 a.2 - numAt xs b.1 b.2
def iabs (i : Int) : Int := if i < 0 then -i else i
theorem er_ (i : Nat) (c : Int) : gRoad i c = c + 1 := rfl
theorem num_e0 {xs : List Int} {s : Nat} (h : s % 2 = 0) : numAt xs s 0 = tot gLow 0 (xs.take s) := by
  unfold numAt mx
  rw [if_pos (by simp [h])]; simp
theorem num_ep {xs : List Int} {s : Nat} {p : Int} (h : s % 2 = 0) (hp : 0 < p) : numAt xs s p = many xs - 1 - tot gHigh 0 (xs.take s) - (p - 1) := by
  unfold numAt mx
  rw [if_neg (by intro z; have := z.mp h; omega)]; split <;> omega
theorem num_o0 {xs : List Int} {s : Nat} (h : ¬ s % 2 = 0) : numAt xs s 0 = many xs - 1 - tot gHigh 0 (xs.take s) := by
  unfold numAt mx
  rw [if_neg (by intro z; exact h (z.mpr rfl))]; simp
theorem num_op {xs : List Int} {s : Nat} {p : Int} (h : ¬ s % 2 = 0) (hp : 0 < p) : numAt xs s p = tot gLow 0 (xs.take s) + (p - 1) := by
  unfold numAt mx
  rw [if_pos (by constructor <;> intro z <;> omega)]; split <;> omega
/-- the difference of a road by its place -/
theorem gap_side {xs : List Int} (hp : ∀ x ∈ xs, 0 ≤ x) {s : Nat} {p : Int} (h : IsH xs s p) (h0 : 0 < p) : iabs (numAt xs s 0 - numAt xs s p) = many xs - 1 - (tot gRoad 0 (xs.take s) + (p - 1)) := by
  obtain ⟨c, hc, _, h1⟩ := h
  have l1 := tot_split gRoad gRoad_nn xs 0 s c hp hc
  have l3 := tot_lh (xs.take s) 0
  have l4 := tot_road xs 0
  have hm : many xs = tot gRoad 0 xs := by unfold many; omega
  rw [Nat.zero_add, er_] at l1
  unfold iabs
  by_cases hs : s % 2 = 0
  · rw [num_e0 hs, num_ep hs h0]; split <;> omega
  · rw [num_o0 hs, num_op hs h0]; split <;> omega
theorem gap_next {xs : List Int} (hp : ∀ x ∈ xs, 0 ≤ x) {s : Nat} {c : Int} (hc : xs[s]? = some c) (h2 : IsH xs (s + 1) 0) : iabs (numAt xs s 0 - numAt xs (s + 1) 0) = many xs - 1 - (tot gRoad 0 (xs.take s) + c) := by
  obtain ⟨c2, hc2, _, h1⟩ := h2
  have l1 := tot_split gRoad gRoad_nn xs 0 (s + 1) c2 hp hc2
  have l3 := tot_lh (xs.take s) 0
  have l4 := tot_road xs 0
  have hm : many xs = tot gRoad 0 xs := by unfold many; omega
  have l5 := tot_take_succ gRoad xs 0 s c hc
  have l6 := tot_take_succ gLow xs 0 s c hc
  have l7 := tot_take_succ gHigh xs 0 s c hc
  have hcn := hp c (List.mem_of_getElem? hc)
  rw [Nat.zero_add, er_] at l1 l5
  rw [Nat.zero_add] at l6 l7
  unfold iabs
  by_cases hs : s % 2 = 0
  · rw [show gLow s c = 1 by unfold gLow; rw [if_pos hs]] at l6
    rw [show gHigh s c = c by unfold gHigh; rw [if_pos hs]] at l7
    rw [num_e0 hs, num_o0 (by omega)]; split <;> omega
  · rw [show gLow s c = c by unfold gLow; rw [if_neg hs]] at l6
    rw [show gHigh s c = 1 by unfold gHigh; rw [if_neg hs]] at l7
    rw [num_o0 hs, num_e0 (by omega)]; split <;> omega
theorem road_ok {xs : List Int} (hp : ∀ x ∈ xs, 0 ≤ x) {d : Int} (h0 : 0 < d) (h1 : d < many xs) : ∃ a b, roadOf xs d = some (a, b) ∧ IsR xs a b ∧ iabs (gap xs a b) = d := by
  have l4 := tot_road xs 0
  have hm : many xs = tot gRoad 0 xs := by unfold many; omega
  obtain ⟨j, c, r, e1, e2, e3, e4, e5⟩ := find_some gRoad xs 0 (many xs - 1 - d) (by omega) (by omega)
  unfold roadOf
  rw [e1]
  simp only [Nat.zero_add, gRoad] at e5 ⊢
  have hg : xs.getD j 0 = c := by rw [List.getD_eq_getElem?_getD, e2]; rfl
  have hc0 := hp c (List.mem_of_getElem? e2)
  simp only [Option.map_some, hg]
  by_cases hr : r < c
  · rw [if_pos hr]
    have hh : IsH xs j (r + 1) := ⟨c, e2, by omega, by omega⟩
    refine ⟨_, _, rfl, ⟨rfl, ⟨c, e2, by omega, by simpa using hc0⟩, .inr ⟨rfl, by simp; omega, hh⟩⟩, ?_⟩
    have := gap_side hp hh (by omega)
    unfold gap; simp only; rw [this]; omega
  · rw [if_neg hr]
    have hj : ∃ c2, xs[j + 1]? = some c2 := by
      cases hq : xs[j + 1]? with
      | some c2 => exact ⟨c2, rfl⟩
      | none =>
        exfalso
        have hlen := List.getElem?_eq_none_iff.mp hq
        have := tot_take_succ gRoad xs 0 j c e2
        rw [List.take_of_length_le hlen, Nat.zero_add, er_] at this
        omega
    obtain ⟨c2, hc2⟩ := hj
    have hh : IsH xs (j + 1) 0 := ⟨c2, hc2, by omega, hp c2 (List.mem_of_getElem? hc2)⟩
    refine ⟨_, _, rfl, ⟨rfl, ⟨c, e2, by omega, by simpa using hc0⟩, .inl ⟨rfl, hh⟩⟩, ?_⟩
    have := gap_next hp e2 hh
    unfold gap; simp only; rw [this]; omega
theorem isR_ok {xs : List Int} (hp : ∀ x ∈ xs, 0 ≤ x) {a b : Nat × Int} (h : IsR xs a b) : 0 < iabs (gap xs a b) ∧ iabs (gap xs a b) < many xs ∧ roadOf xs (iabs (gap xs a b)) = some (a, b) := by
  obtain ⟨s, p⟩ := a
  obtain ⟨h1, ⟨c, hc, _, h2⟩, h3⟩ := h
  simp only at h1 hc h2 h3
  subst h1
  have l4 := tot_road xs 0
  have hm : many xs = tot gRoad 0 xs := by unfold many; omega
  have l1 := tot_split gRoad gRoad_nn xs 0 s c hp hc
  have l0 := tot_nonneg gRoad gRoad_nn (xs.take s) 0 fun y hy => hp y (List.mem_of_mem_take hy)
  rw [Nat.zero_add] at l1
  have hg : xs.getD s 0 = c := by rw [List.getD_eq_getElem?_getD, hc]; rfl
  have er : ∀ c, gRoad s c = c + 1 := fun _ => rfl
  rw [er] at l1
  rcases h3 with ⟨rfl, h4⟩ | ⟨h4, h5, h6⟩
  · have g := gap_next hp hc h4
    obtain ⟨c2, hc2, hy, hz⟩ := h4
    have l7 := tot_split gRoad gRoad_nn xs 0 (s + 1) c2 hp hc2
    have l8 := tot_take_succ gRoad xs 0 s c hc
    rw [Nat.zero_add] at l7 l8
    rw [er] at l8
    have er2 : gRoad (s + 1) c2 = c2 + 1 := rfl
    rw [er2] at l7
    have gg : iabs (gap xs (s, 0) (s + 1, 0)) = many xs - 1 - (tot gRoad 0 (xs.take s) + c) := g
    rw [gg]
    refine ⟨by omega, by omega, ?_⟩
    unfold roadOf
    rw [show many xs - 1 - (many xs - 1 - (tot gRoad 0 (List.take s xs) + c)) = tot gRoad 0 (xs.take s) + c by omega, find_at gRoad gRoad_nn xs 0 s c c hp hc h2 (by rw [Nat.zero_add, er]; omega)]
    simp [hc]
  · obtain ⟨s', q⟩ := b
    simp only at h4 h5 h6
    subst h4
    have g := gap_side hp h6 h5
    have gg : iabs (gap xs (s', 0) (s', q)) = many xs - 1 - (tot gRoad 0 (xs.take s') + (q - 1)) := g
    obtain ⟨c', hc', _, hq⟩ := h6
    rw [hc] at hc'
    cases hc'
    rw [gg]
    refine ⟨by omega, by omega, ?_⟩
    unfold roadOf
    rw [show many xs - 1 - (many xs - 1 - (tot gRoad 0 (List.take s' xs) + (q - 1))) = tot gRoad 0 (xs.take s') + (q - 1) by omega, find_at gRoad gRoad_nn xs 0 s' c (q - 1) hp hc (by omega) (by rw [Nat.zero_add, er]; omega)]
    simp only [Option.map_some, Nat.zero_add, hg]
    rw [if_pos (by omega)]
    simp
end M

set_option Elab.async false
set_option linter.all false
set_option maxRecDepth 100000
set_option maxHeartbeats 1000000
set_option autoImplicit false
namespace Ab
open PySem PySem.Spec PyProof.Rows L2
@[simp] theorem bind_ok {α β : Type} {a : α} {A : AH} {k : α → AH → Res β} : (Res.ok a A).bind k = k a A := rfl
@[simp] theorem bind_exc {α β : Type} {c : Nat} {A : AH} {k : α → AH → Res β} : (Res.exc c A).bind k = .exc c A := rfl
@[simp] theorem bind_bad {α β : Type} {k : α → AH → Res β} : (Res.bad).bind k = .bad := rfl
@[simp] theorem toInts_map (xs : List Int) : toInts (xs.map Vl.int) = some xs := by
  induction xs with
  | nil => rfl
  | cons x r ih => simp [toInts, ih]
@[simp] theorem toBls_map {α : Type} (xs : List α) (g : α → Bool) : toBls (xs.map fun x => Vl.bl (g x)) = some (xs.map g) := by
  induction xs with
  | nil => rfl
  | cons x r ih => simp [toBls, ih]
@[simp] theorem toInts_mapf {α : Type} (xs : List α) (g : α → Int) : toInts (xs.map fun x => Vl.int (g x)) = some (xs.map g) := by
  induction xs with
  | nil => rfl
  | cons x r ih => simp [toInts, ih]
@[simp] theorem plains_ints (xs : List Int) : plains (xs.map Vl.int) = true := by
  induction xs with
  | nil => rfl
  | cons x r ih => simp [plains, plain, ih]
@[simp] theorem plains_take {xs : List Vl} {n : Nat} (h : plains xs = true) : plains (xs.take n) = true := by
  induction xs generalizing n with
  | nil => simp [plains]
  | cons x r ih =>
    rw [plains, Bool.and_eq_true] at h
    cases n with
    | zero => rfl
    | succ n => rw [List.take_succ_cons, plains, h.1, ih h.2]; rfl
@[simp] theorem plains_nil : plains [] = true := rfl
@[simp] theorem plains_cons {x : Vl} {r : List Vl} : plains (x :: r) = (plain x && plains r) := rfl
@[simp] theorem plains_append {x r : List Vl} : plains (x ++ r) = (plains x && plains r) := by
  induction x with
  | nil => rfl
  | cons y z ih => simp [ih, Bool.and_assoc]
theorem plains_of {xs : List Vl} (h : ∀ x ∈ xs, plain x = true) : plains xs = true := by
  induction xs with
  | nil => rfl
  | cons x r ih => simp [h x (by simp), ih fun y hy => h y (by simp [hy])]
@[simp] theorem plain_int {i : Int} : plain (.int i) = true := rfl
@[simp] theorem plain_bl {i : Bool} : plain (.bl i) = true := rfl
@[simp] theorem plain_non : plain .non = true := rfl
@[simp] theorem plain_str {i : Str} : plain (.str i) = true := rfl
@[simp] theorem plain_loc {i : Nat} : plain (.loc i) = false := rfl
@[simp] theorem plain_new {k : Kd} {xs : List Vl} : plain (.new k xs) = false := rfl
@[simp] theorem plain_tup {xs : List Vl} : plain (.tup xs) = plains xs := by rw [plain]
@[simp] theorem plain_rol {xs : List Vl} : plain (.rol xs) = plains xs := by rw [plain]
@[simp] theorem gc_len {d : Vl} {A : AH} : gc A.length d A = .ok d A := by unfold gc; rw [if_pos (Nat.le_refl _)]
theorem gc_pl {n : Nat} {d : Vl} {A : AH} (h : plain d = true) : gc n d A = .ok d (A.take n) := gc_plain h
theorem gc_app {d : Vl} {A B : AH} (h : plain d = true) : gc A.length d (A ++ B) = .ok d A := by rw [gc_plain h]; simp
theorem unb_new {n f : Nat} {A : AH} {k : Kd} {xs : List Vl} (h : plains xs = true) : unb n A (f + 1) (.new k xs) [] = some (.new k xs, []) := by
  simp [unb, mapV_plains h]
theorem gc_new {A B : AH} {k : Kd} {xs : List Vl} (h : plains xs = true) : gc A.length (.new k xs) (A ++ B) = .ok (.new k xs) A := by
  unfold gc
  split
  · rename_i hl
    have : B = [] := List.length_eq_zero_iff.mp (by rw [List.length_append] at hl; omega)
    simp [this]
  · rw [unb_new h]; simp
theorem unb_loc {n f m : Nat} {A : AH} {k : Kd} {xs : List Vl} (hm : n ≤ m) (e : A[m]? = some (k, xs)) (h : plains xs = true) : unb n A (f + 1) (.loc m) [] = some (.new k xs, [m]) := by
  rw [unb]
  simp [Nat.not_lt.mpr hm, e, mapV_plains h]
/-- a list of a def's own is handed out -/
theorem gc_loc {A B : AH} {m : Nat} {k : Kd} {xs : List Vl} (hm : A.length ≤ m) (e : (A ++ B)[m]? = some (k, xs)) (h : plains xs = true) : gc A.length (.loc m) (A ++ B) = .ok (.new k xs) A := by
  unfold gc
  split
  · rename_i hl
    have := (List.getElem?_eq_some_iff.mp e).1
    omega
  · rw [unb_loc hm e h]; simp
/-- a list stands at a place -/
abbrev LA (A : AH) (l : Nat) (xs : List Int) : Prop := A[l]? = some (.lst, xs.map Vl.int)
theorem LA.app {A B : AH} {l : Nat} {xs : List Int} (h : LA A l xs) : LA (A ++ B) l xs := by
  unfold LA at h ⊢
  rw [List.getElem?_append_left (List.getElem?_eq_some_iff.mp h).1]; exact h

@[simp] theorem box_int {i : Int} {A : AH} : box (.int i) A = (.int i, A) := rfl
@[simp] theorem box_bl {i : Bool} {A : AH} : box (.bl i) A = (.bl i, A) := rfl
@[simp] theorem box_non {A : AH} : box .non A = (.non, A) := rfl
@[simp] theorem box_str {i : Str} {A : AH} : box (.str i) A = (.str i, A) := rfl
@[simp] theorem box_loc {i : Nat} {A : AH} : box (.loc i) A = (.loc i, A) := rfl
@[simp] theorem box_rol {i : List Vl} {A : AH} : box (.rol i) A = (.rol i, A) := rfl
@[simp] theorem boxs_nil {A : AH} : boxs [] A = ([], A) := rfl
@[simp] theorem boxs_cons {x : Vl} {r : List Vl} {A : AH} : boxs (x :: r) A = ((box x A).1 :: (boxs r (box x A).2).1, (boxs r (box x A).2).2) := by rw [boxs]
theorem box_tup {xs : List Vl} {A : AH} (h : plains xs = true) : box (.tup xs) A = (.tup xs, A) := by rw [box, if_pos h]
theorem box_new {k : Kd} {xs : List Vl} {A : AH} (h : plains xs = true) : box (.new k xs) A = (.loc A.length, A ++ [(k, xs)]) := by rw [box, boxs_plains xs A h]
/-- comprehensions -/
theorem compL_map {α : Type} {t : Tgt} {elt : CE} {w : Wch} {b : Nat} {s : List (Option Vl)} {A : AH} {phi psi : α → Vl} (hs : seen w A = true) : ∀ {xs : List α} {acc : List Vl}, (∀ x ∈ xs, ∃ s1, put t (phi x) s = some s1 ∧ elt ⟨b, s1⟩ A = .ok (psi x) A) →
    compL t cYes elt w b s (xs.map phi) A acc = .ok (acc ++ xs.map psi) A
  | [], acc, _ => by simp [compL]
  | x :: r, acc, h => by
    obtain ⟨s1, e1, e2⟩ := h x (by simp)
    simp only [List.map_cons, compL, e1, cYes, e2, hs, if_true]
    rw [compL_map hs fun y hy => h y (by simp [hy])]
    simp
theorem cLc_map {α : Type} {ci : CI} {t : Tgt} {elt : CE} {vs : List Nat} {ρ : Ev} {A A1 : AH} {w : Wch} {xs : List α} {phi psi : α → Vl} (hi : ci ρ A = .ok (xs.map phi, w) A1) (hl : xs.length ≤ 100000) (hs : seen w A1 = true) (h : ∀ x ∈ xs, ∃ s1, put t (phi x) (wipeS ρ.s vs) = some s1 ∧ elt ⟨ρ.b, s1⟩ A1 = .ok (psi x) A1) :
    cLc ci t cYes elt vs ρ A = .ok (.new .lst (xs.map psi)) A1 := by
  unfold cLc
  rw [hi]
  simp only [bind_ok, List.length_map, hl, if_true]
  rw [compL_map hs h]
  simp
/-- with a test -/
theorem compL_fil {α : Type} {t : Tgt} {test : CT} {elt : CE} {w : Wch} {b : Nat} {s : List (Option Vl)} {A : AH} {phi psi : α → Vl} {p : α → Bool} (hs : seen w A = true) : ∀ {xs : List α} {acc : List Vl}, (∀ x ∈ xs, ∃ s1, put t (phi x) s = some s1 ∧ test ⟨b, s1⟩ A = .ok (p x) A ∧ (p x = true → elt ⟨b, s1⟩ A = .ok (psi x) A)) →
    compL t test elt w b s (xs.map phi) A acc = .ok (acc ++ (xs.filter p).map psi) A
  | [], acc, _ => by simp [compL]
  | x :: r, acc, h => by
    obtain ⟨s1, e1, e2, e3⟩ := h x (by simp)
    have ih : ∀ acc, compL t test elt w b s (r.map phi) A acc = .ok (acc ++ (r.filter p).map psi) A := fun acc => compL_fil (xs := r) hs fun y hy => h y (by simp [hy])
    cases hp : p x with
    | true =>
      simp only [List.map_cons, compL, e1, e2, hp, e3 hp, hs, if_true, List.filter_cons]
      rw [ih]
      simp
    | false =>
      simp only [List.map_cons, compL, e1, e2, hp, hs, if_true, List.filter_cons]
      rw [ih]
      simp
theorem cLc_fil {α : Type} {ci : CI} {t : Tgt} {test : CT} {elt : CE} {vs : List Nat} {ρ : Ev} {A A1 : AH} {w : Wch} {xs : List α} {phi psi : α → Vl} {p : α → Bool} (hi : ci ρ A = .ok (xs.map phi, w) A1) (hl : xs.length ≤ 100000) (hs : seen w A1 = true)
    (h : ∀ x ∈ xs, ∃ s1, put t (phi x) (wipeS ρ.s vs) = some s1 ∧ test ⟨ρ.b, s1⟩ A1 = .ok (p x) A1 ∧ (p x = true → elt ⟨ρ.b, s1⟩ A1 = .ok (psi x) A1)) :
    cLc ci t test elt vs ρ A = .ok (.new .lst ((xs.filter p).map psi)) A1 := by
  unfold cLc
  rw [hi]
  simp only [bind_ok, List.length_map, hl, if_true]
  rw [compL_fil hs h]
  simp
@[simp] theorem seen_one {A : AH} {l : Nat} {xs : List Vl} (h : A[l]? = some (.lst, xs)) : seen [(l, xs)] A = true := by
  simp [seen, seen1_iff, h]
@[simp] theorem seen_n {A : AH} : seen [] A = true := rfl
/-! code, one step -/
@[simp] theorem back_ok {n : Nat} {d : Vl} {A : AH} : back n (.ok d A) = gc n d A := rfl
@[simp] theorem back_exc {n : Nat} {c : Nat} {A : AH} : back n (.exc c A) = .exc c (A.take n) := rfl
@[simp] theorem fin_rt {n : Nat} {d : Vl} {A : AH} : fin n (.rt d A) = gc n d A := rfl
@[simp] theorem fin_nx {n : Nat} {s : List (Option Vl)} {A : AH} : fin n (.nx s A) = gc n .non A := rfl
@[simp] theorem fin_exc {n : Nat} {c : Nat} {A : AH} : fin n (.exc c A) = .exc c (A.take n) := rfl
@[simp] theorem cC_ {d : Vl} {ρ : Ev} {A : AH} : cC d ρ A = .ok d A := rfl
@[simp] theorem cVar_ {i b : Nat} {s : List (Option Vl)} {A : AH} : cVar i ⟨b, s⟩ A = match s[i]? with | some (some d) => .ok d A | _ => .bad := rfl
@[simp] theorem cNil_ {ρ : Ev} {A : AH} : cNil ρ A = .ok [] A := rfl
@[simp] theorem cCons_ {c : CE} {cs : CA} {ρ : Ev} {A : AH} : cCons c cs ρ A = (c ρ A).bind fun d A1 => (cs ρ A1).bind fun ds A2 => .ok (d :: ds) A2 := rfl
@[simp] theorem cF_ {F : FB} {cs : CA} {ρ : Ev} {A : AH} : cF F cs ρ A = (cs ρ A).bind fun ds A1 => F ρ.b ds A1 := rfl
@[simp] theorem cF1_ {F : FB} {c : CE} {ρ : Ev} {A : AH} : cF1 F c ρ A = (c ρ A).bind fun d A1 => F ρ.b [d] A1 := rfl
@[simp] theorem cF2_ {F : FB} {ca cb : CE} {ρ : Ev} {A : AH} : cF2 F ca cb ρ A = (ca ρ A).bind fun x A1 => (cb ρ A1).bind fun y A2 => F ρ.b [x, y] A2 := rfl
@[simp] theorem cTup_ {cs : CA} {ρ : Ev} {A : AH} : cTup cs ρ A = (cs ρ A).bind fun ds A1 => if ds.length ≤ 100000 then .ok (.tup ds) A1 else .bad := rfl
@[simp] theorem cLst_ {cs : CA} {ρ : Ev} {A : AH} : cLst cs ρ A = (cs ρ A).bind fun ds A1 => if ds.length ≤ 100000 then .ok (.new .lst ds) A1 else .bad := rfl
@[simp] theorem asB_ {k : Bool} {A : AH} : asB (.bl k) A = .ok k A := rfl
@[simp] theorem cTst_ {c : CE} {ρ : Ev} {A : AH} : cTst c ρ A = (c ρ A).bind asB := rfl
@[simp] theorem cAnd_ {a c : CT} {ρ : Ev} {A : AH} : cAnd a c ρ A = (a ρ A).bind fun k A1 => if k = true then c ρ A1 else .ok false A1 := rfl
@[simp] theorem cOr_ {a c : CT} {ρ : Ev} {A : AH} : cOr a c ρ A = (a ρ A).bind fun k A1 => if k = true then .ok true A1 else c ρ A1 := rfl
@[simp] theorem cNot_ {a : CT} {ρ : Ev} {A : AH} : cNot a ρ A = (a ρ A).bind fun k A1 => .ok (!k) A1 := rfl
@[simp] theorem cAndV_ {a c : CE} {ρ : Ev} {A : AH} : cAndV a c ρ A = ((a ρ A).bind asB).bind fun k A1 => if k = true then c ρ A1 else .ok (.bl false) A1 := rfl
@[simp] theorem cOrV_ {a c : CE} {ρ : Ev} {A : AH} : cOrV a c ρ A = ((a ρ A).bind asB).bind fun k A1 => if k = true then .ok (.bl true) A1 else c ρ A1 := rfl
@[simp] theorem cNotV_ {a : CE} {ρ : Ev} {A : AH} : cNotV a ρ A = ((a ρ A).bind asB).bind fun k A1 => .ok (.bl (!k)) A1 := rfl
@[simp] theorem cIfE_ {t : CT} {a c : CE} {ρ : Ev} {A : AH} : cIfE t a c ρ A = (t ρ A).bind fun k A1 => if k = true then a ρ A1 else c ρ A1 := rfl
@[simp] theorem cCall_ {f : Fn} {cs : CA} {ρ : Ev} {A : AH} : cCall f cs ρ A = (cs ρ A).bind fun ds A1 => callF f ds A1 := rfl
@[simp] theorem callF_ {f : Fn} {ds : List Vl} {A : AH} : callF f ds A = back A.length (f (boxs ds A).1 (boxs ds A).2) := rfl
@[simp] theorem cDrop_ {c : CE} {ρ : Ev} {A : AH} : cDrop c ρ A = match c ρ A with | .ok _ A1 => .nx ρ.s A1 | .exc k A1 => .exc k A1 | .bad => .bad := rfl
@[simp] theorem cRet_ {c : CE} {ρ : Ev} {A : AH} : cRet c ρ A = match c ρ A with | .ok d A1 => .rt d A1 | .exc k A1 => .exc k A1 | .bad => .bad := rfl
@[simp] theorem cNx_ {ρ : Ev} {A : AH} : cNx ρ A = .nx ρ.s A := rfl
@[simp] theorem cRaise_ {c : Nat} {ρ : Ev} {A : AH} : cRaise c ρ A = .exc c A := rfl
@[simp] theorem cIf_ {t : CT} {c d : CS} {ρ : Ev} {A : AH} : cIf t c d ρ A = match t ρ A with | .ok true A1 => c ρ A1 | .ok false A1 => d ρ A1 | .exc k A1 => .exc k A1 | .bad => .bad := rfl
@[simp] theorem fSub_ {b : Nat} {i j : Int} {A : AH} : fSub b [.int i, .int j] A = .ok (.int (i - j)) A := rfl
@[simp] theorem fLt_ {b : Nat} {i j : Int} {A : AH} : fLt b [.int i, .int j] A = .ok (.bl (decide (i < j))) A := rfl
@[simp] theorem fLe_ {b : Nat} {i j : Int} {A : AH} : fLe b [.int i, .int j] A = .ok (.bl (decide (i ≤ j))) A := rfl
@[simp] theorem fGt_ {b : Nat} {i j : Int} {A : AH} : fGt b [.int i, .int j] A = .ok (.bl (decide (j < i))) A := rfl
@[simp] theorem fGe_ {b : Nat} {i j : Int} {A : AH} : fGe b [.int i, .int j] A = .ok (.bl (decide (j ≤ i))) A := rfl
@[simp] theorem fMax_ {b : Nat} {i j : Int} {A : AH} : fMax b [.int i, .int j] A = .ok (.int (if j > i then j else i)) A := rfl
@[simp] theorem fMin_ {b : Nat} {i j : Int} {A : AH} : fMin b [.int i, .int j] A = .ok (.int (if j < i then j else i)) A := rfl
@[simp] theorem fAbs_ {b : Nat} {i : Int} {A : AH} : fAbs b [.int i] A = .ok (.int (if i < 0 then -i else i)) A := rfl
@[simp] theorem fNeg_ {b : Nat} {i : Int} {A : AH} : fNeg b [.int i] A = .ok (.int (-i)) A := rfl
@[simp] theorem fAdd_ {b : Nat} {i j : Int} {A : AH} : fAdd b [.int i, .int j] A = .ok (.int (i + j)) A := rfl
@[simp] theorem fEq_ {b : Nat} {i j : Int} {A : AH} : fEqD false b [.int i, .int j] A = .ok (.bl (decide (i = j))) A := rfl
@[simp] theorem fNe_ {b : Nat} {i j : Int} {A : AH} : fEqD true b [.int i, .int j] A = .ok (.bl (!decide (i = j))) A := rfl
@[simp] theorem fEqb_ {b : Nat} {i j : Bool} {A : AH} : fEqD false b [.bl i, .bl j] A = .ok (.bl (decide (i = j))) A := rfl
@[simp] theorem fNeb_ {b : Nat} {i j : Bool} {A : AH} : fEqD true b [.bl i, .bl j] A = .ok (.bl (!decide (i = j))) A := rfl
theorem fMod_ {b : Nat} {i j : Int} {A : AH} (h : 0 < j) : fMod b [.int i, .int j] A = .ok (.int (i % j)) A := by simp [fMod, fI, h]
theorem fDiv_ {b : Nat} {i j : Int} {A : AH} (h : 0 < j ∧ j < 1073741824) : fDiv b [.int i, .int j] A = .ok (.int (i / j)) A := by simp [fDiv, fI, h]
@[simp] theorem fIsi_int {b : Nat} {n : Tg} {i : Int} {A : AH} : fIsi n b [.int i] A = .ok (.bl (isiB .int n)) A := rfl
@[simp] theorem fIsi_bl {b : Nat} {n : Tg} {i : Bool} {A : AH} : fIsi n b [.bl i] A = .ok (.bl (isiB .bl n)) A := rfl
@[simp] theorem fIsi_non {b : Nat} {n : Tg} {A : AH} : fIsi n b [.non] A = .ok (.bl (isiB .non n)) A := rfl
@[simp] theorem fIsi_str {b : Nat} {n : Tg} {i : Str} {A : AH} : fIsi n b [.str i] A = .ok (.bl (isiB .str n)) A := rfl
@[simp] theorem fIsi_tup {b : Nat} {n : Tg} {i : List Vl} {A : AH} : fIsi n b [.tup i] A = .ok (.bl (isiB .tup n)) A := rfl
theorem fIsi_loc {b : Nat} {n : Tg} {l : Nat} {xs : List Vl} {A : AH} (h : A[l]? = some (.lst, xs)) : fIsi n b [.loc l] A = .ok (.bl (isiB .lst n)) A := by simp [fIsi, tgOf, h]
theorem fLen_loc {b l : Nat} {xs : List Vl} {A : AH} (h : A[l]? = some (.lst, xs)) : fLen b [.loc l] A = .ok (.int xs.length) A := by simp [fLen, seqA, seqL, h]
@[simp] theorem fLen_tup {b : Nat} {xs : List Vl} {A : AH} : fLen b [.tup xs] A = .ok (.int xs.length) A := rfl
@[simp] theorem fLen_new {b : Nat} {xs : List Vl} {A : AH} : fLen b [.new .lst xs] A = .ok (.int xs.length) A := rfl
@[simp] theorem fLen_rol {b : Nat} {xs : List Vl} {A : AH} : fLen b [.rol xs] A = .ok (.int xs.length) A := rfl
theorem fSum_loc {b l : Nat} {xs : List Int} {A : AH} (h : LA A l xs) : fSum b [.loc l] A = .ok (.int xs.sum) A := by simp [fSum, fInts, seqL, h]
@[simp] theorem fSum_new {b : Nat} {xs : List Int} {A : AH} : fSum b [.new .lst (xs.map Vl.int)] A = .ok (.int xs.sum) A := by simp [fSum, fInts, seqL]
@[simp] theorem fAll_new {b : Nat} {α : Type} {xs : List α} {g : α → Bool} {A : AH} : fAll b [.new .lst (xs.map fun x => Vl.bl (g x))] A = .ok (.bl (xs.all g)) A := by
  simp only [fAll, fBls, seqL, toBls_map]
  congr 2
  simp [List.all_map]
@[simp] theorem fAny_new {b : Nat} {α : Type} {xs : List α} {g : α → Bool} {A : AH} : fAny b [.new .lst (xs.map fun x => Vl.bl (g x))] A = .ok (.bl (xs.any g)) A := by
  simp only [fAny, fBls, seqL, toBls_map]
  congr 2
  simp [List.any_map]
theorem fIx_loc {b l : Nat} {xs : List Vl} {i : Int} {d : Vl} {A : AH} (h : A[l]? = some (.lst, xs)) (hd : atI xs i = some d) : fIx b [.loc l, .int i] A = .ok d A := by simp [fIx, seqA, seqL, h, hd]
theorem fIx_tup {b : Nat} {xs : List Vl} {i : Int} {d : Vl} {A : AH} (hd : atI xs i = some d) : fIx b [.tup xs, .int i] A = .ok d A := by simp [fIx, seqA, hd]
theorem atI_n {α : Type} {xs : List α} {n : Nat} {d : α} (h : xs[n]? = some d) : atI xs (n : Int) = some d := atI_nat h
@[simp] theorem fIx_t0 {b : Nat} {x : Vl} {xs : List Vl} {A : AH} : fIx b [.tup (x :: xs), .int 0] A = .ok x A := fIx_tup (atI_n (n := 0) rfl)
@[simp] theorem fIx_t1 {b : Nat} {x y : Vl} {xs : List Vl} {A : AH} : fIx b [.tup (x :: y :: xs), .int 1] A = .ok y A := fIx_tup (atI_n (n := 1) rfl)
theorem cIt_loc {c : CE} {ρ : Ev} {A A1 : AH} {l : Nat} {xs : List Vl} (h : c ρ A = .ok (.loc l) A1) (hl : A1[l]? = some (.lst, xs)) : cIt c ρ A = .ok (xs, [(l, xs)]) A1 := by simp [cIt, h, walkA, walkL, hl]
theorem cIt_tup {c : CE} {ρ : Ev} {A A1 : AH} {xs : List Vl} (h : c ρ A = .ok (.tup xs) A1) (hp : plains xs = true) : cIt c ρ A = .ok (xs, []) A1 := by simp [cIt, h, walkA, boxs_plains xs A1 hp]
theorem cEn_loc {c : CE} {ρ : Ev} {A A1 : AH} {l : Nat} {xs : List Vl} (h : c ρ A = .ok (.loc l) A1) (hl : A1[l]? = some (.lst, xs)) : cEn c ρ A = .ok (enumL 0 xs, [(l, xs)]) A1 := by simp [cEn, h, walkL, hl]
theorem cEn_new {c : CE} {ρ : Ev} {A A1 : AH} {xs : List Vl} (h : c ρ A = .ok (.new .lst xs) A1) (hp : plains xs = true) : cEn c ρ A = .ok (enumL 0 xs, []) A1 := by simp [cEn, h, walkL, boxs_plains xs A1 hp]
theorem seq_nx {c d : CS} {ρ : Ev} {A A1 : AH} {s : List (Option Vl)} (h : c ρ A = .nx s A1) : cSeq c d ρ A = d ⟨ρ.b, s⟩ A1 := by simp [cSeq, h]
theorem seq_rt {c d : CS} {ρ : Ev} {A A1 : AH} {v : Vl} (h : c ρ A = .rt v A1) : cSeq c d ρ A = .rt v A1 := by simp [cSeq, h]
theorem seq_exc {c d : CS} {ρ : Ev} {A A1 : AH} {k : Nat} (h : c ρ A = .exc k A1) : cSeq c d ρ A = .exc k A1 := by simp [cSeq, h]
theorem for_of {ci : CI} {t : Tgt} {body : CS} {ρ : Ev} {A A1 : AH} {xs : List Vl} {w : Wch} (h : ci ρ A = .ok (xs, w) A1) : cFor ci t body ρ A = forL t body w ρ.b xs ρ.s A1 := by simp [cFor, h]
@[simp] theorem put_n {i : Nat} {d : Vl} {s : List (Option Vl)} : put (.nm i) d s = some (s.set i (some d)) := by rw [put]
@[simp] theorem put_t {ts : List Tgt} {xs : List Vl} {s : List (Option Vl)} : put (.tp ts) (.tup xs) s = puts ts xs s := by rw [put]
@[simp] theorem puts_n {s : List (Option Vl)} : puts [] [] s = some s := by rw [puts]
@[simp] theorem puts_c {t : Tgt} {ts : List Tgt} {d : Vl} {ds : List Vl} {s : List (Option Vl)} : puts (t :: ts) (d :: ds) s = match put t d s with | none => none | some s1 => puts ts ds s1 := by rw [puts]; try (cases put t d s <;> rfl)
theorem put_of {c : CE} {t : Tgt} {ρ : Ev} {A A1 : AH} {d : Vl} {s : List (Option Vl)} (h : c ρ A = .ok d A1) (hp : put t (box d A1).1 ρ.s = some s) : cPut t c ρ A = .nx s (box d A1).2 := by simp [cPut, h, hp]
theorem put_nm {c : CE} {i : Nat} {ρ : Ev} {A A1 : AH} {d : Vl} (h : c ρ A = .ok d A1) : cPut (.nm i) c ρ A = .nx (ρ.s.set i (some (box d A1).1)) (box d A1).2 := by simp [cPut, h, put]
end Ab

set_option Elab.async false
set_option linter.all false
set_option maxRecDepth 100000
set_option maxHeartbeats 1000000
set_option autoImplicit false
namespace Ab
open PySem PySem.Spec PyProof.Rows L2
theorem cut_take {α : Type} {xs : List α} {s : Int} (h : 0 ≤ s) : cut xs none (some s) = xs.take s.toNat := by
  obtain ⟨n, rfl⟩ := Int.eq_ofNat_of_zero_le h
  unfold cut
  rw [HT.sIx_nat, HT.sIx_none]
  simp
theorem cSl_loc {c : CE} {hi : CE} {ρ : Ev} {A A1 A2 : AH} {l : Nat} {xs : List Vl} {s : Int} (h : c ρ A = .ok (.loc l) A1) (h2 : hi ρ A1 = .ok (.int s) A2) (hl : A2[l]? = some (.lst, xs)) (h0 : 0 ≤ s) : cSl c none (some hi) ρ A = .ok (.new .lst (xs.take s.toNat)) A2 := by
  simp [cSl, h, cPart, h2, fCut, seqL, hl, cut_take h0]
theorem cSl_rol {c : CE} {hi : CE} {ρ : Ev} {A A1 A2 : AH} {xs : List Vl} {s : Int} (h : c ρ A = .ok (.rol xs) A1) (h2 : hi ρ A1 = .ok (.int s) A2) (h0 : 0 ≤ s) : cSl c none (some hi) ρ A = .ok (.new .lst (xs.take s.toNat)) A2 := by
  simp [cSl, h, cPart, h2, fCut, seqL, cut_take h0]
end Ab
namespace G
open PySem PySem.Spec PyProof.Rows L2 Ab
structure Street (xs : List Int) : Prop where
  lo : 1 ≤ xs.length
  hi : xs.length ≤ 60
  nn : ∀ x ∈ xs, 0 ≤ x
def IsWhole (f : Fn) : Prop := ∀ A i j, f [.int i, .int j] A = .ok (.bl (decide (j ≤ i))) A
def CkStreet (f : Fn) : Prop := ∀ A l xs, LA A l xs → Street xs → f [.loc l] A = .ok .non A
def ManyOf (f : Fn) : Prop := ∀ A l xs, LA A l xs → f [.loc l] A = .ok (.int (M.many xs)) A
def AheadOf (f : Fn) : Prop := ∀ A l xs (s : Nat), LA A l xs → f [.loc l, .int s] A = .ok (.tup [.int (M.tot M.gLow 0 (xs.take s)), .int (M.tot M.gHigh 0 (xs.take s))]) A
def NumberAt (f : Fn) : Prop := ∀ A l xs (s : Nat) (p : Int), LA A l xs → f [.loc l, .int s, .int p] A = .ok (.int (M.numAt xs s p)) A
def HousesOf (f : Fn) : Prop := ∀ A l xs, LA A l xs → Street xs → f [.loc l] A = .ok (.int (M.many xs)) A
def NumberOf (f : Fn) : Prop := ∀ A l xs (s : Nat) (p : Int), LA A l xs → Street xs → M.IsH xs s p → f [.loc l, .tup [.int s, .int p]] A = .ok (.int (M.numAt xs s p)) A
def HouseOf (f : Fn) : Prop := ∀ A l xs (m : Int) (s : Nat) (p : Int), LA A l xs → Street xs → 0 ≤ m → m < M.many xs → M.houseOf xs m = some (s, p) → f [.loc l, .int m] A = .ok (.tup [.int s, .int p]) A
def RoadOf (f : Fn) : Prop := ∀ A l xs (d : Int) (s t : Nat) (p q : Int), LA A l xs → Street xs → 0 < d → d < M.many xs → M.roadOf xs d = some ((s, p), (t, q)) → f [.loc l, .int d] A = .ok (.tup [.tup [.int s, .int p], .tup [.int t, .int q]]) A
variable {R : Nat → Fn}
theorem is_whole_ok : IsWhole (mkFn 2 (c_is_whole R)) := fun A i j => by
  simp [mkFn, c_is_whole, isiB]
theorem many_of_ok : ManyOf (mkFn 1 (c_many_of R)) := fun A l xs h => by
  simp [mkFn, c_many_of, fLen_loc h, fSum_loc h, M.many]
theorem check_street_ok (h0 : IsWhole (R 0)) : CkStreet (mkFn 2 (c_check_street R)) := fun A l xs h st => by
  have e : cLc (cIt (cVar 0)) (.nm 1) cYes (c_check_street_e0 R) [1] ⟨A.length, [some (.loc l), none]⟩ A = .ok (.new .lst (xs.map fun x => .bl (decide (0 ≤ x)))) A := by
    refine cLc_map (phi := Vl.int) (w := [(l, xs.map Vl.int)]) (cIt_loc (by simp) h) (by have := st.hi; omega) (seen_one h) fun x hx => ⟨_, put_n, ?_⟩
    simp only [wipeS, List.set_cons_succ, List.set_cons_zero]
    simp [c_check_street_e0, h0 A x 0]
  have hall : (xs.all fun x => decide (0 ≤ x)) = true := by rw [List.all_eq_true]; exact fun x hx => decide_eq_true (st.nn x hx)
  have h1 : (1 : Int) ≤ xs.length := by have := st.lo; omega
  have h2 : (xs.length : Int) ≤ 60 := by have := st.hi; omega
  simp [mkFn, c_check_street, cCh, fIsi_loc h, isiB, fLen_loc h, h1, h2, e, hall]
theorem ahead_loop {w : Wch} {b : Nat} {A : AH} (hs : seen w A = true) {x0 x1 : Option Vl} : ∀ (xs : List Int) (k : Nat) (lo hi : Int) (x4 x5 : Option Vl), ∃ y4 y5,
    forL (.tp [.nm 4, .nm 5]) (c_ahead_of_b0 R) w b (enumL k (xs.map Vl.int)) [x0, x1, some (.int lo), some (.int hi), x4, x5] A = .nx [x0, x1, some (.int (lo + M.tot M.gLow k xs)), some (.int (hi + M.tot M.gHigh k xs)), y4, y5] A
  | [], k, lo, hi, x4, x5 => ⟨x4, x5, by simp [enumL, forL, M.tot]⟩
  | x :: xs, k, lo, hi, x4, x5 => by
    obtain ⟨y4, y5, e⟩ := ahead_loop hs xs (k + 1) (lo + M.gLow k x) (hi + M.gHigh k x) (some (.int k)) (some (.int x))
    refine ⟨y4, y5, ?_⟩
    have hb : c_ahead_of_b0 R ⟨b, [x0, x1, some (.int lo), some (.int hi), some (.int k), some (.int x)]⟩ A = .nx [x0, x1, some (.int (lo + M.gLow k x)), some (.int (hi + M.gHigh k x)), some (.int k), some (.int x)] A := by
      unfold c_ahead_of_b0 M.gLow M.gHigh
      by_cases hk : k % 2 = 0
      · have hk2 : ((k : Int) % 2 = 0) := by omega
        simp [cSeq, cAug, fMod_, hk, hk2]
      · have hk2 : ¬ ((k : Int) % 2 = 0) := by omega
        simp [cSeq, cAug, fMod_, hk, hk2]
    simp only [List.map_cons, enumL, forL, put, puts, List.set_cons_succ, List.set_cons_zero, hb, hs, if_true, M.tot]
    rw [e]
    simp [Int.add_assoc]
theorem ahead_of_ok : AheadOf (mkFn 6 (c_ahead_of R)) := fun A l xs s h => by
  obtain ⟨y4, y5, e⟩ := ahead_loop (R := R) (w := []) (b := A.length) (A := A) rfl (x0 := some (.loc l)) (x1 := some (.int s)) (xs.take s) 0 0 0 none none
  have e1 : cEn (cSl (cVar 0) none (some (cVar 1))) ⟨A.length, [some (.loc l), some (.int s), some (.int 0), some (.int 0), none, none]⟩ A = .ok (enumL 0 ((xs.take s).map Vl.int), []) A := by
    refine cEn_new ?_ (by simp)
    rw [cSl_loc (A1 := A) (A2 := A) (s := s) (l := l) (by simp) (by simp) h (by omega)]
    simp [List.map_take]
  have e2 : cPut (.tp [.nm 2, .nm 3]) (cTup (cCons (cC (.int 0)) (cCons (cC (.int 0)) cNil))) ⟨A.length, [some (.loc l), some (.int s), none, none, none, none]⟩ A = .nx [some (.loc l), some (.int s), some (.int 0), some (.int 0), none, none] A := by
    simp [cPut, box_tup, put, puts]
  simp only [mkFn, c_ahead_of, List.map_cons, List.map_nil, List.length_cons, List.length_nil, Nat.zero_add, Nat.reduceAdd, Nat.reduceSub, List.replicate, List.cons_append, List.nil_append]
  rw [seq_nx e2, seq_nx ((for_of e1).trans e)]
  simp
theorem number_at_ok (h3 : AheadOf (R 3)) (h2 : ManyOf (R 2)) : NumberAt (mkFn 5 (c_number_at R)) := fun A l xs s p h => by
  have e1 : cPut (.tp [.nm 3, .nm 4]) (cCall (R 3) (cCons (cVar 0) (cCons (cVar 1) cNil))) ⟨A.length, [some (.loc l), some (.int s), some (.int p), none, none]⟩ A = .nx [some (.loc l), some (.int s), some (.int p), some (.int (M.tot M.gLow 0 (xs.take s))), some (.int (M.tot M.gHigh 0 (xs.take s)))] A := by
    simp [cPut, h3 A l xs s h, box_tup, put, puts]
  simp only [mkFn, c_number_at, List.map_cons, List.map_nil, List.length_cons, List.length_nil, Nat.zero_add, Nat.reduceAdd, Nat.reduceSub, List.replicate, List.cons_append, List.nil_append]
  rw [seq_nx e1]
  unfold M.numAt M.mx
  by_cases hb : (s % 2 = 0 ↔ p = 0)
  · have hd : decide (decide ((s : Int) % 2 = 0) = decide (p = 0)) = true := by
      by_cases hp : p = 0
      · have := hb.mpr hp
        have : ((s : Int) % 2 = 0) := by omega
        simp [hp, this]
      · have : ¬ (s % 2 = 0) := fun z => hp (hb.mp z)
        have : ¬ ((s : Int) % 2 = 0) := by omega
        simp [hp, this]
    rw [if_pos hb, seq_rt (v := .int (M.tot M.gLow 0 (xs.take s) + if p - 1 > 0 then p - 1 else 0)) (A1 := A)]
    · simp
    · simp only [cIf_, cTst_, cF2_, cVar_, List.getElem?_cons_succ, List.getElem?_cons_zero, bind_ok, cC_, fMod_ (show (0 : Int) < 2 by decide), fEq_, fEqb_, hd, asB_, cRet_, cF_, cCons_, cNil_, fSub_, fMax_, fAdd_]
  · have hd : decide (decide ((s : Int) % 2 = 0) = decide (p = 0)) = false := by
      rw [decide_eq_false_iff_not]
      intro z
      apply hb
      rw [decide_eq_decide] at z
      rw [← z]; omega
    rw [if_neg hb, seq_nx (s := [some (.loc l), some (.int s), some (.int p), some (.int (M.tot M.gLow 0 (xs.take s))), some (.int (M.tot M.gHigh 0 (xs.take s)))]) (A1 := A)]
    · simp [h2 A l xs h]
    · simp only [cIf_, cTst_, cF2_, cVar_, List.getElem?_cons_succ, List.getElem?_cons_zero, bind_ok, cC_, fMod_ (show (0 : Int) < 2 by decide), fEq_, fEqb_, hd, asB_, cNx_]
theorem houses_of_ok (h1 : CkStreet (R 1)) (h2 : ManyOf (R 2)) : HousesOf (mkFn 1 (c_houses_of R)) := fun A l xs h st => by
  simp [mkFn, c_houses_of, cSeq, h1 A l xs h st, h2 A l xs h]
end G

set_option Elab.async false
set_option linter.all false
set_option maxRecDepth 100000
set_option maxHeartbeats 1000000
set_option autoImplicit false
namespace G
open PySem PySem.Spec PyProof.Rows L2 Ab
variable {R : Nat → Fn}
theorem number_of_ok (h0 : IsWhole (R 0)) (h1 : CkStreet (R 1)) (h4 : NumberAt (R 4)) : NumberOf (mkFn 3 (c_number_of R)) := fun A l xs s p h st hh => by
  obtain ⟨c, hc, hp0, hp1⟩ := hh
  have hs := (List.getElem?_eq_some_iff.mp hc).1
  have e : cLc (cIt (cVar 1)) (.nm 2) cYes (c_number_of_e0 R) [2] ⟨A.length, [some (.loc l), some (.tup [.int s, .int p]), none]⟩ A = .ok (.new .lst ([(s : Int), p].map fun x => .bl (decide (0 ≤ x)))) A := by
    refine cLc_map (phi := Vl.int) (w := []) (xs := [(s : Int), p]) (cIt_tup (by simp) (by simp)) (by simp) rfl fun x hx => ⟨_, put_n, ?_⟩
    simp only [wipeS, List.set_cons_succ, List.set_cons_zero]
    simp [c_number_of_e0, h0 A x 0]
  have hix : atI (xs.map Vl.int) (s : Int) = some (.int c) := atI_n (by rw [List.getElem?_map, hc]; rfl)
  have h8 : ¬ ((xs.length : Int) ≤ s) := by omega
  have h9 : ¬ (c < p) := by omega
  have h10 : (0 : Int) ≤ s := by omega
  simp [mkFn, c_number_of, cSeq, h1 A l xs h st, isiB, e, fLen_loc h, h8, fIx_loc h hix, h9, h4 A l xs s p h, box_tup, hp0, fAll, fBls, seqL, toBls]
theorem house_loop {w : Wch} {b : Nat} {A : AH} (hs : seen w A = true) {x0 x1 x2 x3 : Option Vl} {sd : Int} : ∀ (xs : List Int) (k : Nat) (left : Int) (x6 x7 x8 : Option Vl) (s : Nat) (r : Int), M.find (M.gS sd) k xs left = some (s, r) →
    forL (.tp [.nm 6, .nm 7]) (c_house_of_b0 R) w b (enumL k (xs.map Vl.int)) [x0, x1, x2, x3, some (.int sd), some (.int left), x6, x7, x8] A = .rt (.tup [.int s, .int (if (s : Int) % 2 = sd then 0 else r + 1)]) A
  | [], k, left, x6, x7, x8, s, r, h => by simp [M.find] at h
  | x :: xs, k, left, x6, x7, x8, s, r, h => by
    unfold M.find at h
    by_cases hlt : left < M.gS sd k x
    · rw [if_pos hlt] at h
      cases h
      have hb : c_house_of_b0 R ⟨b, [x0, x1, x2, x3, some (.int sd), some (.int left), some (.int k), some (.int x), x8]⟩ A = .rt (.tup [.int k, .int (if (k : Int) % 2 = sd then 0 else left + 1)]) A := by
        unfold c_house_of_b0
        unfold M.gS at hlt
        by_cases hk : (k : Int) % 2 = sd
        · rw [if_pos hk] at hlt
          simp [cSeq, cPut, fMod_, hk, hlt]
        · rw [if_neg hk] at hlt
          simp [cSeq, cPut, fMod_, hk, hlt]
      simp only [List.map_cons, enumL, forL, put_t, puts_c, put_n, puts_n, List.set_cons_succ, List.set_cons_zero, hb]
    · rw [if_neg hlt] at h
      have ih := house_loop (b := b) (x0 := x0) (x1 := x1) (x2 := x2) (x3 := x3) hs xs (k + 1) (left - M.gS sd k x) (some (.int k)) (some (.int x)) (some (.int (M.gS sd k x))) s r h
      have hb : c_house_of_b0 R ⟨b, [x0, x1, x2, x3, some (.int sd), some (.int left), some (.int k), some (.int x), x8]⟩ A = .nx [x0, x1, x2, x3, some (.int sd), some (.int (left - M.gS sd k x)), some (.int k), some (.int x), some (.int (M.gS sd k x))] A := by
        unfold c_house_of_b0
        unfold M.gS at hlt ⊢
        by_cases hk : (k : Int) % 2 = sd
        · rw [if_pos hk] at hlt ⊢
          simp [cSeq, cPut, cAug, fMod_, hk, hlt]
        · rw [if_neg hk] at hlt ⊢
          simp [cSeq, cPut, cAug, fMod_, hk, hlt]
      simp only [List.map_cons, enumL, forL, put_t, puts_c, put_n, puts_n, List.set_cons_succ, List.set_cons_zero, hb, hs, if_true]
      exact ih
theorem house_of_ok (h0 : IsWhole (R 0)) (h1 : CkStreet (R 1)) (h2 : ManyOf (R 2)) (h3 : AheadOf (R 3)) : HouseOf (mkFn 9 (c_house_of R)) := fun A l xs m s p h st hm0 hm1 hh => by
  unfold M.houseOf at hh
  rw [Option.map_eq_some_iff] at hh
  obtain ⟨⟨s', r⟩, hf, e⟩ := hh
  simp only [Prod.mk.injEq] at e
  obtain ⟨rfl, rfl⟩ := e
  have ea := h3 A l xs xs.length h
  rw [List.take_length] at ea
  have lp := house_loop (R := R) (w := [(l, xs.map Vl.int)]) (b := A.length) (A := A) (seen_one h) (x0 := some (.loc l)) (x1 := some (.int m)) (x2 := some (.int (M.many xs))) (x3 := some (.int (M.tot M.gLow 0 xs))) (sd := M.side xs m) xs 0 _ none none none s' r hf
  have en := cEn_loc (c := cVar 0) (ρ := ⟨A.length, [some (.loc l), some (.int m), some (.int (M.many xs)), some (.int (M.tot M.gLow 0 xs)), some (.int (M.side xs m)), some (.int (if M.side xs m = 0 then m else M.many xs - 1 - m)), none, none, none]⟩) (A := A) (A1 := A) (by simp) h
  have g1 : ¬ (M.many xs ≤ m) := by omega
  simp only [mkFn, c_house_of, List.map_cons, List.map_nil, List.length_cons, List.length_nil, Nat.zero_add, Nat.reduceAdd, Nat.reduceSub, List.replicate, List.cons_append, List.nil_append]
  rw [seq_nx (s := [some (.loc l), some (.int m), none, none, none, none, none, none, none]) (A1 := A) (by simp [h1 A l xs h st])]
  rw [seq_nx (s := [some (.loc l), some (.int m), some (.int (M.many xs)), none, none, none, none, none, none]) (A1 := A) (by simp [cPut, h2 A l xs h])]
  rw [seq_nx (s := [some (.loc l), some (.int m), some (.int (M.many xs)), none, none, none, none, none, none]) (A1 := A) (by simp [h0 A m 0, hm0, g1])]
  rw [seq_nx (s := [some (.loc l), some (.int m), some (.int (M.many xs)), some (.int (M.tot M.gLow 0 xs)), none, none, none, none, none]) (A1 := A) (by simp [cPut, fLen_loc h, ea])]
  rw [seq_nx (s := [some (.loc l), some (.int m), some (.int (M.many xs)), some (.int (M.tot M.gLow 0 xs)), some (.int (M.side xs m)), none, none, none, none]) (A1 := A) (by
    unfold M.side
    by_cases hq : m < M.tot M.gLow 0 xs <;> simp [cPut, hq])]
  rw [seq_nx (s := [some (.loc l), some (.int m), some (.int (M.many xs)), some (.int (M.tot M.gLow 0 xs)), some (.int (M.side xs m)), some (.int (if M.side xs m = 0 then m else M.many xs - 1 - m)), none, none, none]) (A1 := A) (by
    by_cases hq : M.side xs m = 0 <;> simp [cPut, hq])]
  rw [seq_rt ((for_of en).trans lp)]
  simp
theorem road_loop {w : Wch} {b : Nat} {A : AH} (hs : seen w A = true) {x0 x1 x2 : Option Vl} : ∀ (xs : List Int) (k : Nat) (left : Int) (x4 x5 : Option Vl) (s : Nat) (r c : Int), (∀ x ∈ xs, 0 ≤ x) → M.find M.gRoad k xs left = some (s, r) → k ≤ s → xs[s - k]? = some c →
    forL (.tp [.nm 4, .nm 5]) (c_road_of_b0 R) w b (enumL k (xs.map Vl.int)) [x0, x1, x2, some (.int left), x4, x5] A = .rt (.tup [.tup [.int s, .int 0], if r < c then .tup [.int s, .int (r + 1)] else .tup [.int ((s : Int) + 1), .int 0]]) A
  | [], k, left, x4, x5, s, r, c, _, h, _, _ => by simp [M.find] at h
  | x :: xs, k, left, x4, x5, s, r, c, hn, h, hks, hc => by
    unfold M.find at h
    by_cases hlt : left < M.gRoad k x
    · rw [if_pos hlt] at h
      cases h
      rw [Nat.sub_self] at hc
      simp at hc
      subst hc
      unfold M.gRoad at hlt
      have hb : c_road_of_b0 R ⟨b, [x0, x1, x2, some (.int left), some (.int k), some (.int x)]⟩ A = .rt (.tup [.tup [.int k, .int 0], if left < x then .tup [.int k, .int (left + 1)] else .tup [.int ((k : Int) + 1), .int 0]]) A := by
        unfold c_road_of_b0
        by_cases hk : left < x
        · simp [cSeq, hk]
        · have : left = x := by omega
          subst this
          simp [cSeq]
      simp only [List.map_cons, enumL, forL, put_t, puts_c, put_n, puts_n, List.set_cons_succ, List.set_cons_zero, hb]
    · rw [if_neg hlt] at h
      have hks2 : k + 1 ≤ s := by
        obtain ⟨j, c', r', e1, _⟩ : ∃ j c' r', M.find M.gRoad (k + 1) xs (left - M.gRoad k x) = some (k + 1 + j, r') ∧ True := by
          have key : ∀ (ys : List Int) (k : Nat) (lf : Int) (s : Nat) (r : Int), M.find M.gRoad k ys lf = some (s, r) → k ≤ s := by
            intro ys
            induction ys with
            | nil => intro k lf s r h; simp [M.find] at h
            | cons y ys ih =>
              intro k lf s r h
              unfold M.find at h
              split at h
              · cases h; exact Nat.le_refl _
              · have := ih _ _ _ _ h; omega
          have := key _ _ _ _ _ h
          exact ⟨s - (k + 1), 0, r, by rw [h, show k + 1 + (s - (k + 1)) = s by omega], trivial⟩
        rw [h] at e1
        cases e1
        omega
      have ih := road_loop (b := b) (x0 := x0) (x1 := x1) (x2 := x2) hs xs (k + 1) (left - M.gRoad k x) (some (.int k)) (some (.int x)) s r c (fun y hy => hn y (by simp [hy])) h hks2 (by
        have : s - k = (s - (k + 1)) + 1 := by omega
        rw [this] at hc
        simpa using hc)
      unfold M.gRoad at hlt
      have hb : c_road_of_b0 R ⟨b, [x0, x1, x2, some (.int left), some (.int k), some (.int x)]⟩ A = .nx [x0, x1, x2, some (.int (left - M.gRoad k x)), some (.int k), some (.int x)] A := by
        unfold c_road_of_b0 M.gRoad
        have q1 : ¬ (left < x) := by omega
        have q2 : ¬ (left = x) := by omega
        simp [cSeq, cAug, q1, q2]
      simp only [List.map_cons, enumL, forL, put_t, puts_c, put_n, puts_n, List.set_cons_succ, List.set_cons_zero, hb, hs, if_true]
      exact ih
theorem road_of_ok (h0 : IsWhole (R 0)) (h1 : CkStreet (R 1)) (h2 : ManyOf (R 2)) : RoadOf (mkFn 6 (c_road_of R)) := fun A l xs d s t p q h st hm0 hm1 hh => by
  have l4 := M.tot_road xs 0
  have hm : M.many xs = M.tot M.gRoad 0 xs := by unfold M.many; omega
  obtain ⟨j, c, r, e1, e2, e3, e4, e5⟩ := M.find_some M.gRoad xs 0 (M.many xs - 1 - d) (by omega) (by omega)
  unfold M.roadOf at hh
  rw [e1] at hh
  simp only [Nat.zero_add, Option.map_some, Option.some.injEq, Prod.mk.injEq] at hh e1
  have hg : xs.getD j 0 = c := by rw [List.getD_eq_getElem?_getD, e2]; rfl
  rw [hg] at hh
  obtain ⟨⟨rfl, rfl⟩, hq⟩ := hh
  have lp := road_loop (R := R) (w := [(l, xs.map Vl.int)]) (b := A.length) (A := A) (seen_one h) (x0 := some (.loc l)) (x1 := some (.int d)) (x2 := some (.int (M.many xs))) xs 0 _ none none j r c st.nn e1 (Nat.zero_le _) (by simpa using e2)
  have en := cEn_loc (c := cVar 0) (ρ := ⟨A.length, [some (.loc l), some (.int d), some (.int (M.many xs)), some (.int (M.many xs - 1 - d)), none, none]⟩) (A := A) (A1 := A) (by simp) h
  have g1 : ¬ (M.many xs ≤ d) := by omega
  have g0 : (1 : Int) ≤ d := by omega
  simp only [mkFn, c_road_of, List.map_cons, List.map_nil, List.length_cons, List.length_nil, Nat.zero_add, Nat.reduceAdd, Nat.reduceSub, List.replicate, List.cons_append, List.nil_append]
  rw [seq_nx (s := [some (.loc l), some (.int d), none, none, none, none]) (A1 := A) (by simp [h1 A l xs h st])]
  rw [seq_nx (s := [some (.loc l), some (.int d), some (.int (M.many xs)), none, none, none]) (A1 := A) (by simp [cPut, h2 A l xs h])]
  rw [seq_nx (s := [some (.loc l), some (.int d), some (.int (M.many xs)), none, none, none]) (A1 := A) (by simp [h0 A d 1, g0, g1])]
  rw [seq_nx (s := [some (.loc l), some (.int d), some (.int (M.many xs)), some (.int (M.many xs - 1 - d)), none, none]) (A1 := A) (by simp [cPut])]
  rw [seq_rt ((for_of en).trans lp)]
  split at hq
  · rename_i hr
    cases hq
    simp [hr]
  · rename_i hr
    cases hq
    simp [hr]
end G

set_option Elab.async false
set_option linter.all false
set_option maxRecDepth 100000
set_option maxHeartbeats 1000000
set_option autoImplicit false
namespace Ab
open PySem PySem.Spec PyProof.Rows L2
/-! sizes -/
def lg (x : Int) : Nat := x.natAbs.log2
theorem lg_lt {x : Int} {k : Nat} (h : x.natAbs < 2 ^ k) : lg x ≤ k := by
  unfold lg
  by_cases h0 : x.natAbs = 0
  · rw [h0]; simp
  · exact Nat.le_of_lt ((Nat.log2_lt h0).mpr h)
theorem lt_lg (x : Int) : x.natAbs < 2 ^ (lg x + 1) := Nat.lt_log2_self
theorem lg_add (x y : Int) : lg (x + y) ≤ max (lg x) (lg y) + 2 := by
  apply lg_lt
  have h1 := lt_lg x
  have h2 := lt_lg y
  have h3 : (x + y).natAbs ≤ x.natAbs + y.natAbs := Int.natAbs_add_le x y
  have m1 : 2 ^ (lg x + 1) ≤ 2 ^ (max (lg x) (lg y) + 1) := Nat.pow_le_pow_right (by decide) (by omega)
  have m2 : 2 ^ (lg y + 1) ≤ 2 ^ (max (lg x) (lg y) + 1) := Nat.pow_le_pow_right (by decide) (by omega)
  have m3 : 2 ^ (max (lg x) (lg y) + 2) = 2 ^ (max (lg x) (lg y) + 1) * 2 := Nat.pow_succ ..
  omega
theorem lg_mul (x y : Int) : lg (x * y) ≤ lg x + lg y + 2 := by
  apply lg_lt
  have h1 := lt_lg x
  have h2 := lt_lg y
  rw [Int.natAbs_mul, show lg x + lg y + 2 = (lg x + 1) + (lg y + 1) by omega, Nat.pow_add]
  exact Nat.mul_lt_mul'' h1 h2
theorem lg_neg (x : Int) : lg (-x) = lg x := by unfold lg; rw [Int.natAbs_neg]
theorem lg_sub (x y : Int) : lg (x - y) ≤ max (lg x) (lg y) + 2 := by
  have := lg_add x (-y)
  rw [lg_neg] at this
  exact this
theorem lg_bits {x : Int} {n : Nat} (h : Builtin.Int.intBits x ≤ n) : lg x ≤ n := by
  unfold Builtin.Int.intBits at h
  unfold lg
  split at h
  · rename_i h0
    have : x = 0 := by simpa using h0
    subst this
    simp
  · omega
theorem lg_sum {n : Nat} : ∀ {xs : List Int}, (∀ x ∈ xs, lg x ≤ n) → lg xs.sum ≤ n + 2 * xs.length
  | [], _ => by simp [lg]
  | x :: r, h => by
    have h1 := h x (by simp)
    have h2 := lg_sum (n := n) (xs := r) fun y hy => h y (by simp [hy])
    have h3 := lg_add x r.sum
    rw [List.sum_cons, List.length_cons]
    omega
theorem fMul_ {b : Nat} {i j : Int} {A : AH} (h : lg i + lg j < 100000000) : fMul b [.int i, .int j] A = .ok (.int (i * j)) A := by
  unfold lg at h
  simp [fMul, h]
theorem fPow_ {b : Nat} {i j : Int} {A : AH} (h : 0 ≤ j ∧ j ≤ 1000000 ∧ i.natAbs < 2 ^ 64) : fPow b [.int i, .int j] A = .ok (.int (i ^ j.toNat)) A := by
  show (if decide (0 ≤ j ∧ j ≤ 1000000 ∧ i.natAbs < 2 ^ 64) = true then Res.ok (Vl.int (i ^ j.toNat)) A else Res.bad) = _
  rw [if_pos (decide_eq_true h)]
/-! == of data -/
theorem eqvAll_ints : ∀ ns ms : List Int, PyData.eqvAll (ns.map PyData.int) (ms.map PyData.int) = decide (ns = ms)
  | [], [] => by simp [PyData.eqvAll]
  | [], _ :: _ => by simp [PyData.eqvAll]
  | _ :: _, [] => by simp [PyData.eqvAll]
  | n :: r, k :: q => by
    simp only [List.map_cons, PyData.eqvAll, PyData.eqv, eqvAll_ints r q]
    by_cases h : n = k <;> simp [h]
theorem toD_int {A : AH} {f : Nat} {i : Int} : toD A (f + 1) (.int i) = some (.int i) := by rw [toD]
theorem mapO_ints {A : AH} {f : Nat} : ∀ ns : List Int, mapO (toD A (f + 1)) (ns.map Vl.int) = some (ns.map PyData.int)
  | [] => rfl
  | n :: r => by simp only [List.map_cons, mapO, toD_int, mapO_ints r]
theorem toD_loc {A : AH} {f l : Nat} {ns : List Int} (h : LA A l ns) : toD A (f + 2) (.loc l) = some (.list (ns.map PyData.int)) := by
  unfold toD
  simp [seqL, h, mapO_ints]
theorem toD_new {A : AH} {f : Nat} {ns : List Int} : toD A (f + 2) (.new .lst (ns.map Vl.int)) = some (.list (ns.map PyData.int)) := by
  unfold toD
  simp [seqL, mapO_ints]
theorem toD_rol {A : AH} {f : Nat} {ns : List Int} : toD A (f + 2) (.rol (ns.map Vl.int)) = some (.list (ns.map PyData.int)) := by
  unfold toD
  simp [seqL, mapO_ints]
theorem fEq_list {neg : Bool} {b : Nat} {A : AH} {x y : Vl} {l : List PyData} {e : PyData} (hx : toD A 8 x = some (.list l)) (hy : toD A 8 y = some e) (s1 : SeqAt.shaped (.list l) = true) (s2 : SeqAt.shaped e = true) : fEqD neg b [x, y] A = .ok (.bl (if neg = true then !PyData.eqv (.list l) e else PyData.eqv (.list l) e)) A := by
  unfold fEqD
  split
  · rename_i e1; cases e1; simp [toD] at hx
  · rename_i e1; cases e1; simp [toD] at hx
  · rename_i e1; cases e1; simp [hx, hy, s1, s2]
  · rename_i h3; exact absurd rfl (h3 x y)
theorem fEq_tuple {neg : Bool} {b : Nat} {A : AH} {x y : Vl} {l : List PyData} {e : PyData} (hx : toD A 8 x = some (.tuple l)) (hy : toD A 8 y = some e) (s1 : SeqAt.shaped (.tuple l) = true) (s2 : SeqAt.shaped e = true) : fEqD neg b [x, y] A = .ok (.bl (if neg = true then !PyData.eqv (.tuple l) e else PyData.eqv (.tuple l) e)) A := by
  unfold fEqD
  split
  · rename_i e1; cases e1; simp [toD] at hx
  · rename_i e1; cases e1; simp [toD] at hx
  · rename_i e1; cases e1; simp [hx, hy, s1, s2]
  · rename_i h3; exact absurd rfl (h3 x y)
/-- two lists of whole numbers -/
theorem fEq_ints {neg : Bool} {b : Nat} {A : AH} {x y : Vl} {ns ms : List Int} (hx : toD A 8 x = some (.list (ns.map PyData.int))) (hy : toD A 8 y = some (.list (ms.map PyData.int))) : fEqD neg b [x, y] A = .ok (.bl (if neg = true then !decide (ns = ms) else decide (ns = ms))) A := by
  rw [fEq_list hx hy (PySem.W.shaped_ints ns) (PySem.W.shaped_ints ms)]
  simp only [PyData.eqv, eqvAll_ints]
theorem toD_tup2 {A : AH} {f : Nat} {i j : Int} : toD A (f + 2) (.tup [.int i, .int j]) = some (.tuple [.int i, .int j]) := by simp [toD, mapO]
theorem shaped_2 {i j : Int} : SeqAt.shaped (.tuple [.int i, .int j]) = true := by
  simp [SeqAt.shaped, PyData.canLay0, PyData.canLayAll0, PyData.depth, PyData.depthAll]
/-- two pairs -/
theorem fEq_pairs {neg : Bool} {b : Nat} {A : AH} {i j k l : Int} : fEqD neg b [.tup [.int i, .int j], .tup [.int k, .int l]] A = .ok (.bl (if neg = true then !decide (i = k ∧ j = l) else decide (i = k ∧ j = l))) A := by
  rw [fEq_tuple toD_tup2 toD_tup2 shaped_2 shaped_2]
  have : PyData.eqv (.tuple [.int i, .int j]) (.tuple [.int k, .int l]) = decide (i = k ∧ j = l) := by
    simp only [PyData.eqv, PyData.eqvAll, Bool.and_true]
    by_cases h1 : i = k <;> by_cases h2 : j = l <;> simp [h1, h2]
  rw [this]
theorem perm_of_sub {α : Type} [DecidableEq α] : ∀ {l m : List α}, l.Nodup → (∀ x ∈ l, x ∈ m) → m.length ≤ l.length → l.Perm m
  | [], m, _, _, h => by
    have : m = [] := List.length_eq_zero_iff.mp (by simpa using h)
    rw [this]
  | x :: r, m, hn, hs, hl => by
    rw [List.nodup_cons] at hn
    have hx := hs x (by simp)
    refine ((perm_of_sub hn.2 (fun y hy => ?_) ?_).cons x).trans (List.perm_cons_erase hx).symm
    · exact (List.mem_erase_of_ne (a := y) (b := x) fun z => hn.1 (z ▸ hy)).mpr (hs y (by simp [hy]))
    · rw [List.length_erase_of_mem hx]
      simp at hl
      omega
theorem isort_range {l : List Int} {n : Nat} (h1 : l.length = n) (h2 : l.Nodup) (h3 : ∀ x ∈ l, 0 ≤ x ∧ x < n) : isort l = (List.range n).map fun i : Nat => (i : Int) := by
  apply isort_eq
  · have hs : l.Subset ((List.range n).map fun i : Nat => (i : Int)) := fun x hx => by
      obtain ⟨a, b⟩ := h3 x hx
      rw [List.mem_map]
      exact ⟨x.toNat, by rw [List.mem_range]; omega, by omega⟩
    exact (perm_of_sub h2 hs (by simp [h1])).symm
  · rw [List.pairwise_map]
    refine List.Pairwise.imp ?_ List.pairwise_lt_range
    intro a b h
    omega
end Ab

set_option Elab.async false
set_option linter.all false
set_option maxRecDepth 100000
set_option maxHeartbeats 1000000
set_option autoImplicit false
namespace Ab
open PySem PySem.Spec PyProof.Rows L2
theorem toD_2 {A : AH} {f : Nat} : toD A (f + 1) (.new .lst []) = some (.list []) := by
  unfold toD
  simp [seqL, mapO]
theorem fIx_n {b : Nat} {xs : List Vl} {n : Nat} {d : Vl} {A : AH} (h : xs[n]? = some d) : fIx b [.tup xs, .int n] A = .ok d A := fIx_tup (atI_n h)
theorem rgL_map (n : Nat) : rgL 0 (n : Int) = (List.range n).map fun i : Nat => Vl.int (i : Int) := by
  unfold rgL
  simp
theorem cRg1_n {c : CE} {ρ : Ev} {A A1 : AH} {n : Nat} (h : c ρ A = .ok (.int n) A1) (hn : n ≤ 100000) : cRg1 c ρ A = .ok ((List.range n).map fun i : Nat => Vl.int (i : Int), []) A1 := by
  have : (0 : Int) ≤ 0 ∧ (0 : Int) ≤ 100000 ∧ (-100000 : Int) ≤ n ∧ (n : Int) ≤ 100000 := by omega
  simp [cRg1, h, fRg, this, rgL_map]
end Ab
namespace G
open PySem PySem.Spec PyProof.Rows L2 Ab
variable {R : Nat → Fn}
def lmix (c a w : Int) : Int := ((c + 977 * a) * 48271 + w) % 2147483647
def lmor (c a w : Int) : Int := lmix c a w * (lmix c a w + 31 * a + 7) * (lmix c a w + c + 5)
def lnum (c a w : Int) : Int := if (10 : Int) ^ 18 ≤ c then c else lmor c a w * (lmor c a w + 48271) / 1009
def LawNumber (f : Fn) : Prop := ∀ A c a w, lg c ≤ 2000000 → lg w ≤ 2000000 → 0 ≤ a → a ≤ 1000 → f [.int c, .int a, .int w] A = .ok (.int (lnum c a w)) A
theorem lg_small {x : Int} (k : Nat) (h : x.natAbs < 2 ^ k) : lg x ≤ k := lg_lt h
theorem law_number_ok : LawNumber (mkFn 5 (c__law_number R)) := fun A c a w hc hw h0 h1 => by
  have la : lg a ≤ 10 := lg_small 10 (by omega)
  have l977 : lg (977 : Int) ≤ 10 := lg_small 10 (by decide)
  have l31 : lg (31 : Int) ≤ 10 := lg_small 10 (by decide)
  have l4 : lg (48271 : Int) ≤ 16 := lg_small 16 (by decide)
  have l7 : lg (7 : Int) ≤ 10 := lg_small 10 (by decide)
  have l5 : lg (5 : Int) ≤ 10 := lg_small 10 (by decide)
  have a1 := lg_mul 977 a
  have a2 := lg_add c (977 * a)
  have a3 := lg_mul (c + 977 * a) 48271
  have hm0 : 0 ≤ lmix c a w := Int.emod_nonneg _ (by decide)
  have hm1 : lmix c a w < 2147483647 := Int.emod_lt_of_pos _ (by decide)
  have lm : lg (lmix c a w) ≤ 31 := lg_small 31 (by omega)
  have b1 := lg_mul 31 a
  have b2 := lg_add (lmix c a w) (31 * a)
  have b3 := lg_add (lmix c a w + 31 * a) 7
  have b4 := lg_mul (lmix c a w) (lmix c a w + 31 * a + 7)
  have b5 := lg_add (lmix c a w) c
  have b6 := lg_add (lmix c a w + c) 5
  have b7 := lg_mul (lmix c a w * (lmix c a w + 31 * a + 7)) (lmix c a w + c + 5)
  have c1 : lg (lmor c a w) ≤ lg (lmix c a w * (lmix c a w + 31 * a + 7)) + lg (lmix c a w + c + 5) + 2 := b7
  have c2 := lg_add (lmor c a w) 48271
  simp only [mkFn, c__law_number, List.map_cons, List.map_nil, List.length_cons, List.length_nil, Nat.zero_add, Nat.reduceAdd, Nat.reduceSub, List.replicate, List.cons_append, List.nil_append]
  have hpow : fPow A.length [.int 10, .int 18] A = .ok (.int (10 ^ 18)) A := fPow_ ⟨by decide, by decide, by decide⟩
  by_cases hge : (10 : Int) ^ 18 ≤ c
  · rw [seq_rt (v := .int c) (A1 := A)]
    · rw [fin_rt, gc_len]; unfold lnum; rw [if_pos hge]
    · simp only [cIf_, cTst_, cF2_, cVar_, List.getElem?_cons_zero, bind_ok, cC_, hpow, fGe_, decide_eq_true hge, asB_, cRet_]
  · rw [seq_nx (s := [some (.int c), some (.int a), some (.int w), none, none]) (A1 := A)]
    · rw [seq_nx (s := [some (.int c), some (.int a), some (.int w), some (.int (lmix c a w)), none]) (A1 := A)]
      · rw [seq_nx (s := [some (.int c), some (.int a), some (.int w), some (.int (lmix c a w)), some (.int (lmor c a w))]) (A1 := A)]
        · simp only [cRet_, cF2_, cVar_, List.getElem?_cons_succ, List.getElem?_cons_zero, bind_ok, cC_, fAdd_, fMul_ (i := lmor c a w) (j := lmor c a w + 48271) (by omega), fDiv_ (j := 1009) ⟨by decide, by decide⟩]
          rw [fin_rt, gc_len]; unfold lnum; rw [if_neg hge]
        · rw [put_nm (d := .int (lmor c a w)) (A1 := A)]
          · simp
          · simp only [cF2_, cVar_, List.getElem?_cons_succ, List.getElem?_cons_zero, bind_ok, cC_, fAdd_]
            rw [fMul_ (i := 31) (j := a) (by omega)]
            simp only [bind_ok, fAdd_]
            rw [fMul_ (i := lmix c a w) (by omega)]
            simp only [bind_ok]
            rw [fMul_ (by omega)]
            rfl
      · rw [put_nm (d := .int (lmix c a w)) (A1 := A)]
        · simp
        · simp only [cF2_, cVar_, List.getElem?_cons_succ, List.getElem?_cons_zero, bind_ok, cC_]
          rw [fMul_ (i := 977) (j := a) (by omega)]
          simp only [bind_ok, fAdd_]
          rw [fMul_ (i := c + 977 * a) (by omega)]
          simp only [bind_ok, fAdd_, fMod_ (j := 2147483647) (by decide)]
          rfl
    · simp only [cIf_, cTst_, cF2_, cVar_, List.getElem?_cons_zero, bind_ok, cC_, hpow, fGe_, decide_eq_false hge, asB_, cNx_]
def LawWhole (f : Fn) : Prop := ∀ A i, f [.int i] A = .ok (.bl true) A
theorem law_whole_ok : LawWhole (mkFn 1 (c__law_whole R)) := fun A i => by
  simp [mkFn, c__law_whole, isiB]
def cells (ns : List Int) : List Int := if ns = [] then [3] else ns.take 63
theorem cells_ok {ns : List Int} (h : ∀ z ∈ ns, Builtin.Int.intBits z ≤ 1048576) : cells ns ≠ [] ∧ (cells ns).length ≤ 63 ∧ ∀ z ∈ cells ns, lg z ≤ 1048576 := by
  unfold cells
  split
  · refine ⟨by simp, by simp, fun z hz => ?_⟩
    simp at hz
    subst hz
    exact Nat.le_trans (lg_small 10 (by decide)) (by decide)
  · rename_i h0
    refine ⟨?_, by simp; omega, fun z hz => lg_bits (h z (List.mem_of_mem_take hz))⟩
    intro z
    cases ns with
    | nil => exact h0 rfl
    | cons a r => simp at z
/-- the street of a script -/
def wide (w : Int) : Int := if w / 720 % 4 = 0 then 3 else if w / 720 % 4 = 1 then 6 else if w / 720 % 4 = 2 then 10 ^ 6 else 10 ^ 40
def spots (w : Int) : Nat := (if w / 6 % 2 = 0 then 1 + w % 6 else 1 + w / 12 % 60).toNat
def street (ns : List Int) (by_ : Int) : List Int := (List.range (spots ((cells ns).sum + by_))).map fun i : Nat => lnum ((cells ns).getD (((i : Int) + by_) % (cells ns).length).toNat 0) (i + by_) ((cells ns).sum + by_) / 3 % wide ((cells ns).sum + by_)
theorem wide_pos (w : Int) : 0 < wide w := by unfold wide; split <;> (try split) <;> (try split) <;> decide
theorem spots_ok (w : Int) : 1 ≤ spots w ∧ spots w ≤ 60 := by
  unfold spots
  split <;> omega
theorem street_ok (ns : List Int) (by_ : Int) : Street (street ns by_) := by
  have := spots_ok ((cells ns).sum + by_)
  refine ⟨by simp [street]; omega, by simp [street]; omega, fun x hx => ?_⟩
  unfold street at hx
  rw [List.mem_map] at hx
  obtain ⟨i, _, rfl⟩ := hx
  exact Int.emod_nonneg _ (by have := wide_pos ((cells ns).sum + by_); omega)
def LawStreet (f : Fn) : Prop := ∀ A ns (b : Int), (∀ z ∈ ns, Builtin.Int.intBits z ≤ 1048576) → 0 ≤ b → b ≤ 10 → f [.rol (ns.map Vl.int), .int b] A = .ok (.new .lst ((street ns b).map Vl.int)) A
theorem law_street_ok (h34 : LawNumber (R 34)) : LawStreet (mkFn 7 (c__law_street R)) := fun A ns b hb b0 b1 => by
  obtain ⟨k1, k2, k3⟩ := cells_ok hb
  have kl : 0 < (cells ns).length := by
    cases h : cells ns with
    | nil => exact absurd h k1
    | cons _ _ => simp
  have ks := lg_sum k3
  have ks2 := lg_add (cells ns).sum b
  have lb : lg b ≤ 10 := lg_small 10 (by omega)
  let w := (cells ns).sum + b
  have hw : lg w ≤ 2000000 := by
    show lg ((cells ns).sum + b) ≤ _
    omega
  have sp := spots_ok w
  simp only [mkFn, c__law_street, List.map_cons, List.map_nil, List.length_cons, List.length_nil, Nat.zero_add, Nat.reduceAdd, Nat.reduceSub, List.replicate, List.cons_append, List.nil_append]
  -- the cells
  have e1 : cPut (.nm 2) (cIfE (cTst (cF2 (fEqD true) (cVar 0) (cLst cNil))) (cSl (cVar 0) none (some (cC (.int 63)))) (cLst (cCons (cC (.int 3)) cNil))) ⟨A.length, [some (.rol (ns.map Vl.int)), some (.int b), none, none, none, none, none]⟩ A = .nx [some (.rol (ns.map Vl.int)), some (.int b), some (.loc A.length), none, none, none, none] (A ++ [(.lst, (cells ns).map Vl.int)]) := by
    rw [put_nm (d := .new .lst ((cells ns).map Vl.int)) (A1 := A)]
    · rw [box_new (by simp)]; simp
    · have eq : fEqD true A.length [.rol (ns.map Vl.int), .new .lst []] A = .ok (.bl (!decide (ns = []))) A := fEq_ints (neg := true) (ns := ns) (ms := []) toD_rol (by rw [List.map_nil]; exact toD_2)
      simp only [cIfE_, cTst_, cF2_, cVar_, List.getElem?_cons_zero, bind_ok, cLst_, cNil_, List.length_nil, Nat.zero_le, if_true, eq, asB_]
      unfold cells
      by_cases h0 : ns = []
      · subst h0; simp
      · simp only [h0, decide_false, Bool.not_false, if_true, if_false]
        rw [cSl_rol (A1 := A) (A2 := A) (s := 63) (xs := ns.map Vl.int) (by simp) (by simp) (by decide)]
        simp [List.map_take]
  rw [seq_nx e1]
  have hA : LA (A ++ [(.lst, (cells ns).map Vl.int)]) A.length (cells ns) := by simp [LA]
  generalize hB : A ++ [(Kd.lst, (cells ns).map Vl.int)] = B at hA
  rw [seq_nx (s := [some (.rol (ns.map Vl.int)), some (.int b), some (.loc A.length), some (.int w), none, none, none]) (A1 := B) (by simp [cPut, fSum_loc hA]; rfl)]
  have e3 : cPut (.nm 4) (cF2 fIx (cTup (cCons (cF2 fAdd (cC (.int 1)) (cF2 fMod (cVar 3) (cC (.int 6)))) (cCons (cF2 fAdd (cC (.int 1)) (cF2 fMod (cF2 fDiv (cVar 3) (cC (.int 12))) (cC (.int 60)))) cNil))) (cF2 fMod (cF2 fDiv (cVar 3) (cC (.int 6))) (cC (.int 2)))) ⟨A.length, [some (.rol (ns.map Vl.int)), some (.int b), some (.loc A.length), some (.int w), none, none, none]⟩ B = .nx [some (.rol (ns.map Vl.int)), some (.int b), some (.loc A.length), some (.int w), some (.int (spots w)), none, none] B := by
    rw [put_nm (d := .int (spots w)) (A1 := B)]
    · simp
    · simp only [cF2_, cTup_, cCons_, cNil_, cVar_, List.getElem?_cons_succ, List.getElem?_cons_zero, bind_ok, cC_, fMod_ (show (0 : Int) < 6 by decide), fMod_ (show (0 : Int) < 60 by decide), fMod_ (show (0 : Int) < 2 by decide), fDiv_ (show (0 : Int) < 12 ∧ (12 : Int) < 1073741824 by decide), fDiv_ (show (0 : Int) < 6 ∧ (6 : Int) < 1073741824 by decide), fAdd_, List.length_cons, List.length_nil]
      rw [if_pos (by decide)]
      unfold spots
      by_cases hq : w / 6 % 2 = 0
      · simp only [bind_ok, hq, if_true, fIx_t0]
        congr 2; omega
      · have hq2 : w / 6 % 2 = 1 := by omega
        simp only [bind_ok, hq2, fIx_t1]
        congr 2; simp; omega
  rw [seq_nx e3]
  have e4 : cPut (.nm 5) (cF2 fIx (cTup (cCons (cC (.int 3)) (cCons (cC (.int 6)) (cCons (cF2 fPow (cC (.int 10)) (cC (.int 6))) (cCons (cF2 fPow (cC (.int 10)) (cC (.int 40))) cNil))))) (cF2 fMod (cF2 fDiv (cVar 3) (cC (.int 720))) (cC (.int 4)))) ⟨A.length, [some (.rol (ns.map Vl.int)), some (.int b), some (.loc A.length), some (.int w), some (.int (spots w)), none, none]⟩ B = .nx [some (.rol (ns.map Vl.int)), some (.int b), some (.loc A.length), some (.int w), some (.int (spots w)), some (.int (wide w)), none] B := by
    rw [put_nm (d := .int (wide w)) (A1 := B)]
    · simp
    · have p1 : fPow A.length [.int 10, .int 6] B = .ok (.int (10 ^ 6)) B := fPow_ ⟨by decide, by decide, by decide⟩
      have p2 : fPow A.length [.int 10, .int 40] B = .ok (.int (10 ^ 40)) B := fPow_ ⟨by decide, by decide, by decide⟩
      simp only [cF2_, cTup_, cCons_, cNil_, cVar_, List.getElem?_cons_succ, List.getElem?_cons_zero, bind_ok, cC_, p1, p2, fMod_ (show (0 : Int) < 4 by decide), fDiv_ (show (0 : Int) < 720 ∧ (720 : Int) < 1073741824 by decide), List.length_cons, List.length_nil]
      rw [if_pos (by decide)]
      simp only [bind_ok]
      unfold wide
      have hc : w / 720 % 4 = 0 ∨ w / 720 % 4 = 1 ∨ w / 720 % 4 = 2 ∨ w / 720 % 4 = 3 := by omega
      rcases hc with q | q | q | q <;> rw [q]
      · exact fIx_n (n := 0) rfl
      · exact fIx_n (n := 1) rfl
      · exact fIx_n (n := 2) rfl
      · exact fIx_n (n := 3) rfl
  rw [seq_nx e4]
  have e5 : cLc (cRg1 (cVar 4)) (.nm 6) cYes (c__law_street_e0 R) [6] ⟨A.length, [some (.rol (ns.map Vl.int)), some (.int b), some (.loc A.length), some (.int w), some (.int (spots w)), some (.int (wide w)), none]⟩ B = .ok (.new .lst ((street ns b).map Vl.int)) B := by
    unfold street
    rw [List.map_map]
    refine cLc_map (phi := fun i : Nat => Vl.int (i : Int)) (w := []) (xs := List.range (spots w)) (cRg1_n (by simp) (by omega)) (by simp; omega) rfl fun i hi => ⟨_, put_n, ?_⟩
    rw [List.mem_range] at hi
    simp only [wipeS, List.set_cons_succ, List.set_cons_zero]
    have hx0 : 0 ≤ ((i : Int) + b) % (cells ns).length := Int.emod_nonneg _ (by omega)
    have hx1 : ((i : Int) + b) % (cells ns).length < (cells ns).length := Int.emod_lt_of_pos _ (by omega)
    have hlt : (((i : Int) + b) % (cells ns).length).toNat < (cells ns).length := by omega
    have hget : (cells ns)[(((i : Int) + b) % (cells ns).length).toNat]? = some ((cells ns).getD (((i : Int) + b) % (cells ns).length).toNat 0) := by
      rw [List.getD_eq_getElem?_getD, List.getElem?_eq_getElem hlt]; rfl
    have hix : atI ((cells ns).map Vl.int) (((i : Int) + b) % (cells ns).length) = some (.int ((cells ns).getD (((i : Int) + b) % (cells ns).length).toNat 0)) := by
      have := atI_n (xs := (cells ns).map Vl.int) (n := (((i : Int) + b) % (cells ns).length).toNat) (d := .int ((cells ns).getD (((i : Int) + b) % (cells ns).length).toNat 0)) (by rw [List.getElem?_map, hget]; rfl)
      rwa [Int.toNat_of_nonneg hx0] at this
    have hlc : lg ((cells ns).getD (((i : Int) + b) % (cells ns).length).toNat 0) ≤ 2000000 := Nat.le_trans (k3 _ (List.mem_of_getElem? hget)) (by decide)
    have hn := h34 B ((cells ns).getD (((i : Int) + b) % (cells ns).length).toNat 0) ((i : Int) + b) w hlc hw (by omega) (by omega)
    have hkl : (0 : Int) < ((cells ns).map Vl.int).length := by simp; omega
    simp only [c__law_street_e0, cF2_, cCall_, cCons_, cNil_, cF_, cVar_, List.getElem?_cons_succ, List.getElem?_cons_zero, bind_ok, cC_, fAdd_, fLen_loc hA, fMod_ hkl, callF_, boxs_cons, boxs_nil, box_int]
    rw [List.length_map, fIx_loc hA hix]
    simp only [bind_ok, boxs_cons, boxs_nil, box_int, hn, back_ok, gc_len, fDiv_ (show (0 : Int) < 3 ∧ (3 : Int) < 1073741824 by decide), fMod_ (wide_pos w)]
    rfl
  rw [cRet_, e5]
  simp only [fin_rt]
  rw [← hB, gc_new (by simp)]
end G

set_option Elab.async false
set_option linter.all false
set_option maxRecDepth 100000
set_option maxHeartbeats 1000000
set_option autoImplicit false
namespace Ab
open PySem PySem.Spec PyProof.Rows L2
@[simp] theorem at_app {A B : AH} {j : Nat} : (A ++ B)[A.length + j]? = B[j]? := by
  rw [List.getElem?_append_right (by omega)]; simp
@[simp] theorem at_app0 {A B : AH} : (A ++ B)[A.length]? = B[0]? := by
  rw [List.getElem?_append_right (by omega)]; simp
@[simp] theorem set_app {A B : AH} {j : Nat} {c : Cell} : (A ++ B).set (A.length + j) c = A ++ B.set j c := by
  rw [List.set_append_right _ _ (by omega)]; simp
theorem fAppend_ {b l : Nat} {A : AH} {xs : List Vl} {y : Vl} (h : A[l]? = some (.lst, xs)) (hp : plain y = true) (hl : xs.length < 100000) (hm : b ≤ l) : fAppend b [.loc l, y] A = .ok .non (A.set l (.lst, xs ++ [y])) := by
  simp [fAppend, box_plain y A hp, h, hl, mayPut, hm]
theorem cM_loc {F : FB} {co : CE} {cs : CA} {ρ : Ev} {A A1 : AH} {l : Nat} {xs : List Vl} (h : co ρ A = .ok (.loc l) A1) (hl : A1[l]? = some (.lst, xs)) : cM F co cs ρ A = (cs ρ A1).bind fun ds A2 => F ρ.b (.loc l :: ds) A2 := by
  simp [cM, h, seqL, hl]
end Ab
namespace G
open PySem PySem.Spec PyProof.Rows L2 Ab
variable {R : Nat → Fn}
abbrev pr (q : Nat × Int) : Vl := .tup [.int q.1, .int q.2]
theorem plains_pr (qs : List (Nat × Int)) : plains (qs.map pr) = true := by
  induction qs with
  | nil => rfl
  | cons q r ih => simp [ih]
def LawSomeHouse (f : Fn) : Prop := ∀ A l xs n, LA A l xs → Street xs → ∃ q : Nat × Int, M.IsH xs q.1 q.2 ∧ f [.loc l, .int n] A = .ok (pr q) A
theorem law_some_house_ok : LawSomeHouse (mkFn 3 (c__law_some_house R)) := fun A l xs n h st => by
  have hl : (0 : Int) < xs.length := by have := st.lo; omega
  have hl2 : (0 : Int) < (xs.map Vl.int).length := by simpa using hl
  have h0 : 0 ≤ n % xs.length := Int.emod_nonneg _ (by omega)
  have h1 : n % xs.length < xs.length := Int.emod_lt_of_pos _ hl
  obtain ⟨s, hs⟩ := Int.eq_ofNat_of_zero_le h0
  have hs1 : s < xs.length := by omega
  have hc : xs[s]? = some xs[s] := List.getElem?_eq_getElem hs1
  have hcn := st.nn xs[s] (List.getElem_mem hs1)
  have hix : atI (xs.map Vl.int) (s : Int) = some (.int xs[s]) := atI_n (by rw [List.getElem?_map, hc]; rfl)
  have hp : (0 : Int) < xs[s] + 1 := by omega
  have p0 : 0 ≤ n / 61 % (xs[s] + 1) := Int.emod_nonneg _ (by omega)
  have p1 : n / 61 % (xs[s] + 1) < xs[s] + 1 := Int.emod_lt_of_pos _ hp
  refine ⟨(s, n / 61 % (xs[s] + 1)), ⟨xs[s], hc, p0, by simp only; omega⟩, ?_⟩
  have e1 : cPut (.nm 2) (cF2 fMod (cVar 1) (cF fLen (cCons (cVar 0) cNil))) ⟨A.length, [some (.loc l), some (.int n), none]⟩ A = .nx [some (.loc l), some (.int n), some (.int s)] A := by
    rw [put_nm (d := .int s) (A1 := A)]
    · simp
    · simp only [cF2_, cF_, cCons_, cNil_, cVar_, List.getElem?_cons_succ, List.getElem?_cons_zero, bind_ok, fLen_loc h, fMod_ hl2]
      rw [List.length_map, hs]
  simp only [mkFn, c__law_some_house, List.map_cons, List.map_nil, List.length_cons, List.length_nil, Nat.zero_add, Nat.reduceAdd, Nat.reduceSub, List.replicate, List.cons_append, List.nil_append]
  rw [seq_nx e1]
  simp [fIx_loc h hix, fDiv_ (show (0 : Int) < 61 ∧ (61 : Int) < 1073741824 by decide), fMod_ hp]
def LawIsHouse (f : Fn) : Prop := ∀ A l xs q, LA A l xs → M.IsH xs q.1 q.2 → f [.loc l, pr q] A = .ok (.bl true) A
theorem law_is_house_ok (h35 : LawWhole (R 35)) : LawIsHouse (mkFn 2 (c__law_is_house R)) := fun A l xs q h hh => by
  obtain ⟨s, p⟩ := q
  obtain ⟨c, hc, h0, h1⟩ := hh
  have hs := (List.getElem?_eq_some_iff.mp hc).1
  have hix : atI (xs.map Vl.int) (s : Int) = some (.int c) := atI_n (by rw [List.getElem?_map, hc]; rfl)
  have g1 : (s : Int) < xs.length := by omega
  have g2 : (0 : Int) ≤ s := by omega
  simp only at h0 h1
  simp [mkFn, c__law_is_house, cSeq, isiB, h35 A, cCh, fLen_loc h, fIx_loc h hix, h0, h1, g1, g2]
def every : Nat → List Int → List (Nat × Int)
  | _, [] => []
  | k, c :: r => ((List.range (c + 1).toNat).map fun i : Nat => (k, (i : Int))) ++ every (k + 1) r
theorem mem_every : ∀ {xs : List Int} {k : Nat} {q : Nat × Int}, q ∈ every k xs → k ≤ q.1 ∧ ∃ c, xs[q.1 - k]? = some c ∧ 0 ≤ q.2 ∧ q.2 ≤ c
  | [], _, _, h => by simp [every] at h
  | c :: r, k, q, h => by
    rw [every, List.mem_append] at h
    rcases h with h | h
    · rw [List.mem_map] at h
      obtain ⟨i, hi, rfl⟩ := h
      rw [List.mem_range] at hi
      exact ⟨Nat.le_refl _, c, by simp, by simp only; omega, by simp only; omega⟩
    · obtain ⟨h1, c', h2, h3, h4⟩ := mem_every h
      refine ⟨by omega, c', ?_, h3, h4⟩
      rw [show q.1 - k = (q.1 - (k + 1)) + 1 by omega]
      simpa using h2
theorem len_every : ∀ {xs : List Int} {k : Nat}, (∀ x ∈ xs, 0 ≤ x) → ((every k xs).length : Int) = M.many xs
  | [], _, _ => by simp [every, M.many]
  | c :: r, k, h => by
    have ih := len_every (xs := r) (k := k + 1) fun y hy => h y (by simp [hy])
    have hc := h c (by simp)
    unfold M.many at ih ⊢
    simp only [every, List.length_append, List.length_map, List.length_range, List.length_cons, List.sum_cons]
    omega
theorem nodup_every : ∀ {xs : List Int} {k : Nat}, (every k xs).Nodup
  | [], _ => by simp [every]
  | c :: r, k => by
    rw [every, List.nodup_append]
    refine ⟨?_, nodup_every, fun a ha b hb e => ?_⟩
    · refine List.Pairwise.map _ ?_ List.nodup_range
      intro a b h z
      simp only [Prod.mk.injEq, true_and] at z
      exact h (by omega)
    · rw [List.mem_map] at ha
      obtain ⟨i, _, rfl⟩ := ha
      have := (mem_every hb).1
      rw [← e] at this
      simp only at this
      omega
theorem every_isH {xs : List Int} {q : Nat × Int} (h : q ∈ every 0 xs) : M.IsH xs q.1 q.2 := by
  obtain ⟨_, c, h2, h3, h4⟩ := mem_every h
  exact ⟨c, by simpa using h2, h3, h4⟩
/-- all numbers of a street, sorted -/
theorem sort_every {xs : List Int} (hp : ∀ x ∈ xs, 0 ≤ x) : isort ((every 0 xs).map fun q => M.numAt xs q.1 q.2) = (List.range (M.many xs).toNat).map fun i : Nat => (i : Int) := by
  have hl := len_every (k := 0) hp
  have e : (M.many xs).toNat = (every 0 xs).length := by omega
  apply isort_range
  · rw [List.length_map, e]
  · refine List.Pairwise.of_map (S := fun a b => a ≠ b) (fun m => M.houseOf xs m) (fun a b h z => h (by rw [z])) ?_
    rw [List.map_map]
    have : (every 0 xs).map ((fun m => M.houseOf xs m) ∘ fun q => M.numAt xs q.1 q.2) = (every 0 xs).map some := by
      apply List.map_congr_left
      intro q hq
      exact (M.num_ok hp (every_isH hq)).2.2
    rw [this]
    exact List.Pairwise.map _ (fun a b h z => h (Option.some.inj z)) nodup_every
  · intro m hm
    rw [List.mem_map] at hm
    obtain ⟨q, hq, rfl⟩ := hm
    have := M.num_ok hp (every_isH hq)
    omega
def LawEvery (f : Fn) : Prop := ∀ A l xs, LA A l xs → (∀ x ∈ xs, 0 ≤ x) → M.many xs < 1000 → f [.loc l] A = .ok (.new .lst ((every 0 xs).map pr)) A
theorem every_loop {b l : Nat} {A : AH} {ys : List Int} : ∀ (xs : List Int) (k : Nat) (B : AH) (acc : List (Nat × Int)) (m : Nat) (x2 x3 x4 : Option Vl), LA A l ys → (A ++ B)[m]? = some (.lst, acc.map pr) → A.length ≤ m → (∀ x ∈ xs, 0 ≤ x) → M.many xs + acc.length < 2000 →
    ∃ B' m' y2 y3 y4, forL (.tp [.nm 2, .nm 3]) (c__law_every_b1 R) [(l, ys.map Vl.int)] b (enumL k (xs.map Vl.int)) [some (.loc l), some (.loc m), x2, x3, x4] (A ++ B) = .nx [some (.loc l), some (.loc m'), y2, y3, y4] (A ++ B') ∧
      (A ++ B')[m']? = some (.lst, (acc ++ every k xs).map pr) ∧ A.length ≤ m'
  | [], k, B, acc, m, x2, x3, x4, hl, h, hm, _, _ => ⟨B, m, x2, x3, x4, by simp [enumL, forL], by simpa [every] using h, hm⟩
  | x :: xs, k, B, acc, m, x2, x3, x4, hl, h, hm, hn, hs => by
    have hx := hn x (by simp)
    have hn' : ∀ y ∈ xs, 0 ≤ y := fun y hy => hn y (by simp [hy])
    have ht : 0 ≤ M.many xs := by
      have := len_every (k := 0) hn'
      omega
    have hmany : M.many (x :: xs) = x + 1 + M.many xs := by unfold M.many; simp; omega
    have hxs : ((x + 1).toNat : Int) = x + 1 := by omega
    have e1 : cLc (cRg1 (cF2 fAdd (cVar 3) (cC (.int 1)))) (.nm 4) cYes (c__law_every_e0 R) [4] ⟨b, [some (.loc l), some (.loc m), some (.int k), some (.int x), x4]⟩ (A ++ B) = .ok (.new .lst (((List.range (x + 1).toNat).map fun i : Nat => (k, (i : Int))).map pr)) (A ++ B) := by
      rw [List.map_map]
      refine cLc_map (phi := fun i : Nat => Vl.int (i : Int)) (w := []) (xs := List.range (x + 1).toNat) (cRg1_n (by simp; omega) (by omega)) (by simp; omega) rfl fun i hi => ⟨_, put_n, ?_⟩
      simp only [wipeS, List.set_cons_succ, List.set_cons_zero]
      simp [c__law_every_e0]
    have e2 : c__law_every_b1 R ⟨b, [some (.loc l), some (.loc m), some (.int k), some (.int x), x4]⟩ (A ++ B) = .nx [some (.loc l), some (.loc (A ++ B).length), some (.int k), some (.int x), x4] (A ++ (B ++ [(.lst, (acc ++ (List.range (x + 1).toNat).map fun i : Nat => (k, (i : Int))).map pr)])) := by
      unfold c__law_every_b1
      have hadd : fAdd b [.loc m, .new .lst (((List.range (x + 1).toNat).map fun i : Nat => (k, (i : Int))).map pr)] (A ++ B) = .ok (.new .lst ((acc ++ (List.range (x + 1).toNat).map fun i : Nat => (k, (i : Int))).map pr)) (A ++ B) := by
        have hc : (acc.map pr).length + (((List.range (x + 1).toNat).map fun i : Nat => (k, (i : Int))).map pr).length ≤ 100000 := by simp; omega
        simp only [fAdd, mutL, h, hc, if_true, List.map_append]
      rw [put_nm (d := .new .lst ((acc ++ (List.range (x + 1).toNat).map fun i : Nat => (k, (i : Int))).map pr)) (A1 := A ++ B)]
      · rw [box_new (plains_pr _)]
        simp
      · simp only [cF2_, cVar_, List.getElem?_cons_succ, List.getElem?_cons_zero, bind_ok]
        rw [e1]
        simp only [bind_ok, hadd]
    obtain ⟨B', m', y2, y3, y4, e3, e4, e5⟩ := every_loop xs (k + 1) (B ++ [(.lst, (acc ++ (List.range (x + 1).toNat).map fun i : Nat => (k, (i : Int))).map pr)]) (acc ++ (List.range (x + 1).toNat).map fun i : Nat => (k, (i : Int))) (A ++ B).length (some (.int k)) (some (.int x)) x4 hl (by rw [← List.append_assoc]; simp) (by simp) hn' (by simp; omega)
    refine ⟨B', m', y2, y3, y4, ?_, by rw [e4, every]; simp, e5⟩
    simp only [List.map_cons, enumL, forL, put_t, puts_c, put_n, puts_n, List.set_cons_succ, List.set_cons_zero, e2]
    rw [if_pos (seen_one (LA.app hl))]
    exact e3
theorem law_every_ok : LawEvery (mkFn 5 (c__law_every R)) := fun A l xs h hn hm => by
  obtain ⟨B', m', y2, y3, y4, e3, e4, e5⟩ := every_loop (R := R) (b := A.length) (l := l) (A := A) (ys := xs) xs 0 [(.lst, [])] [] A.length none none none h (by simp) (Nat.le_refl _) hn (by simpa using Int.lt_of_lt_of_le hm (by decide))
  simp only [mkFn, c__law_every, List.map_cons, List.map_nil, List.length_cons, List.length_nil, Nat.zero_add, Nat.reduceAdd, Nat.reduceSub, List.replicate, List.cons_append, List.nil_append]
  rw [seq_nx (s := [some (.loc l), some (.loc A.length), none, none, none]) (A1 := A ++ [(.lst, [])]) (by simp [cPut, box_new plains_nil])]
  rw [seq_nx ((for_of (cEn_loc (A1 := A ++ [(.lst, [])]) (by simp) (LA.app h))).trans e3)]
  simp only [cRet_, cVar_, List.getElem?_cons_succ, List.getElem?_cons_zero, fin_rt]
  rw [gc_loc e5 e4 (plains_pr _)]
  simp
end G

set_option Elab.async false
set_option linter.all false
set_option maxRecDepth 100000
set_option maxHeartbeats 4000000
namespace G
open PySem PySem.Spec PyProof.Rows L2 Ab
def top (i : Nat) : Stmt := PySem.Challenge.pw_unlikeroads_k01_whole_numbers.main.body.getD i (.Pass ⟨0, 0, 0, 0⟩)
/-! ### is_whole -/
abbrev s0 : Stmt := top 7
abbrev N0 : List Str := ["thing", "least"]
abbrev p0 : List Str := ["thing", "least"]
/-! ### check_street -/
abbrev s1 : Stmt := top 8
abbrev N1 : List Str := ["street", "one"]
abbrev p1 : List Str := ["street"]
/-! ### many_of -/
abbrev s2 : Stmt := top 9
abbrev N2 : List Str := ["street"]
abbrev p2 : List Str := ["street"]
/-! ### ahead_of -/
abbrev s3 : Stmt := top 10
abbrev N3 : List Str := ["street", "spot", "low", "high", "at", "count"]
abbrev p3 : List Str := ["street", "spot"]
/-! ### number_at -/
abbrev s4 : Stmt := top 11
abbrev N4 : List Str := ["street", "spot", "place", "low", "high"]
abbrev p4 : List Str := ["street", "spot", "place"]
/-! ### houses_of -/
abbrev s5 : Stmt := top 12
abbrev N5 : List Str := ["street"]
abbrev p5 : List Str := ["street"]
/-! ### number_of -/
abbrev s6 : Stmt := top 13
abbrev N6 : List Str := ["street", "house", "one"]
abbrev p6 : List Str := ["street", "house"]
/-! ### house_of -/
abbrev s7 : Stmt := top 14
abbrev N7 : List Str := ["street", "number", "many", "lows", "side", "left", "spot", "count", "own"]
abbrev p7 : List Str := ["street", "number"]
/-! ### _law_number -/
abbrev s34 : Stmt := top 16
abbrev N34 : List Str := ["_law_cell", "_law_at", "_law_whole_here", "_law_mixed", "_law_more"]
abbrev p34 : List Str := ["_law_cell", "_law_at", "_law_whole_here"]
/-! ### _law_whole -/
abbrev s35 : Stmt := top 17
abbrev N35 : List Str := ["_law_found"]
abbrev p35 : List Str := ["_law_found"]
/-! ### _law_street -/
abbrev s36 : Stmt := top 18
abbrev N36 : List Str := ["_law_script", "_law_by", "_law_cells", "_law_whole_here", "_law_spots", "_law_wide", "_law_at"]
abbrev p36 : List Str := ["_law_script", "_law_by"]
/-! ### _law_some_house -/
abbrev s37 : Stmt := top 19
abbrev N37 : List Str := ["_law_street_here", "_law_number_here", "_law_spot"]
abbrev p37 : List Str := ["_law_street_here", "_law_number_here"]
/-! ### _law_is_house -/
abbrev s38 : Stmt := top 20
abbrev N38 : List Str := ["_law_street_here", "_law_found"]
abbrev p38 : List Str := ["_law_street_here", "_law_found"]
/-! ### _law_every -/
abbrev s39 : Stmt := top 21
abbrev N39 : List Str := ["_law_street_here", "_law_found", "_law_spot", "_law_count", "_law_place"]
abbrev p39 : List Str := ["_law_street_here"]
/-! ### _law_right -/
abbrev s60 : Stmt := top 22
abbrev N60 : List Str := ["_law_street_here", "_law_house", "_law_many", "_law_number_here", "_law_found"]
abbrev p60 : List Str := ["_law_street_here", "_law_house", "_law_many"]
def c__law_right (R : Nat → Fn) : CS :=
  (cSeq (cPut (.nm 3) (cCall (R 6) (cCons (cVar 0) (cCons (cVar 1) cNil))))
  (cSeq (cIf (cOr (cNot (cTst (cCall (R 35) (cCons (cVar 3) cNil)))) (cOr (cNot (cTst (cCh (fun i j => decide (i ≤ j)) (fun i j => decide (i < j)) (cC (.int 0)) (cVar 3) (cVar 2)))) (cTst (cF2 (fEqD true) (cCall (R 6) (cCons (cVar 0) (cCons (cVar 1) cNil))) (cVar 3)))))
  (cRet (cC (.bl false)))
  cNx)
  (cSeq (cPut (.nm 4) (cCall (R 7) (cCons (cVar 0) (cCons (cVar 3) cNil))))
  (cRet (cAndV (cCall (R 38) (cCons (cVar 0) (cCons (cVar 4) cNil))) (cF2 (fEqD false) (cVar 4) (cVar 1)))))))
/-! ### law -/
abbrev s61 : Stmt := top 23
abbrev N61 : List Str := ["_law_script", "_law_whole_here", "_law_by", "_law_street_here", "_law_kept", "_law_many", "_law_told", "_law_last", "_law_houses", "_law_numbers", "_law_at", "_law_cell", "_law_number_here", "_law_found", "_law_house"]
abbrev p61 : List Str := ["_law_script"]
def c_law_b0 (R : Nat → Fn) : CS :=
  (cSeq (cPut (.nm 12) (cCall (R 34) (cCons (cVar 11) (cCons (cF2 fAdd (cVar 10) (cC (.int 4))) (cCons (cVar 1) cNil)))))
  (cSeq (cDrop (cM fAppend (cVar 8) (cCons (cCall (R 37) (cCons (cVar 3) (cCons (cVar 12) cNil))) cNil)))
  (cDrop (cM fAppend (cVar 9) (cCons (cF2 fMod (cF2 fDiv (cVar 12) (cC (.int 5))) (cVar 5)) cNil)))))
def c_law_e1 (R : Nat → Fn) : CE :=
  (cCall (R 6) (cCons (cVar 3) (cCons (cVar 14) cNil)))
def c_law_e2 (R : Nat → Fn) : CE :=
  (cCall (R 60) (cCons (cVar 3) (cCons (cVar 14) (cCons (cVar 5) cNil))))
def c_law_b3 (R : Nat → Fn) : CS :=
  (cSeq (cPut (.nm 13) (cCall (R 7) (cCons (cVar 3) (cCons (cVar 12) cNil))))
  (cSeq (cIf (cOr (cNot (cTst (cCall (R 38) (cCons (cVar 3) (cCons (cVar 13) cNil))))) (cTst (cF2 (fEqD true) (cCall (R 6) (cCons (cVar 3) (cCons (cVar 13) cNil))) (cVar 12))))
  (cRet (cC (.bl false)))
  cNx)
  (cIf (cTst (cF2 (fEqD true) (cCall (R 7) (cCons (cVar 3) (cCons (cVar 12) cNil))) (cVar 13)))
  (cRet (cC (.bl false)))
  cNx)))
def c_law_b4 (R : Nat → Fn) : CS :=
  (cSeq (cPut (.nm 3) (cCall (R 36) (cCons (cVar 0) (cCons (cVar 2) cNil))))
  (cSeq (cPut (.tp [(.nm 4), (.nm 5)]) (cTup (cCons (cF fList (cCons (cVar 3) cNil)) (cCons (cF2 fAdd (cF fLen (cCons (cVar 3) cNil)) (cF fSum (cCons (cVar 3) cNil))) cNil))))
  (cSeq (cPut (.nm 6) (cCall (R 5) (cCons (cVar 3) cNil)))
  (cSeq (cIf (cOr (cNot (cTst (cCall (R 35) (cCons (cVar 6) cNil)))) (cTst (cF2 (fEqD true) (cVar 6) (cVar 5))))
  (cRet (cC (.bl false)))
  cNx)
  (cSeq (cPut (.nm 7) (cF2 fSub (cF fLen (cCons (cVar 3) cNil)) (cC (.int 1))))
  (cSeq (cPut (.nm 8) (cLst (cCons (cTup (cCons (cC (.int 0)) (cCons (cC (.int 0)) cNil))) (cCons (cTup (cCons (cVar 7) (cCons (cC (.int 0)) cNil))) (cCons (cTup (cCons (cVar 7) (cCons (cF2 fIx (cVar 3) (cVar 7)) cNil))) (cCons (cTup (cCons (cC (.int 0)) (cCons (cF2 fIx (cVar 3) (cC (.int 0))) cNil))) cNil))))))
  (cSeq (cPut (.nm 9) (cLst (cCons (cC (.int 0)) (cCons (cF2 fSub (cVar 5) (cC (.int 1))) (cCons (cF2 fDiv (cVar 5) (cC (.int 2))) cNil)))))
  (cSeq (cFor (cEn (cF2 fAdd (cLst (cCons (cVar 1) cNil)) (cSl (cVar 0) none (some (cC (.int 8)))))) (.tp [(.nm 10), (.nm 11)]) (c_law_b0 R))
  (cSeq (cIf (cTst (cF2 fLt (cVar 5) (cC (.int 30))))
  (cSeq (cPut (.nm 8) (cCall (R 39) (cCons (cVar 3) cNil)))
  (cIf (cTst (cF2 (fEqD true) (cF fSorted (cCons (cLc (cIt (cVar 8)) (.nm 14) cYes (c_law_e1 R) [14]) cNil)) (cRgL1 (cVar 5))))
  (cRet (cC (.bl false)))
  cNx))
  cNx)
  (cSeq (cIf (cNot (cTst (cF fAll (cCons (cLc (cIt (cVar 8)) (.nm 14) cYes (c_law_e2 R) [14]) cNil))))
  (cRet (cC (.bl false)))
  cNx)
  (cSeq (cFor (cIt (cVar 9)) (.nm 12) (c_law_b3 R))
  (cIf (cTst (cF2 (fEqD true) (cVar 3) (cVar 4)))
  (cRet (cC (.bl false)))
  cNx))))))))))))
def c_law (R : Nat → Fn) : CS :=
  (cSeq (cPut (.nm 1) (cF fSum (cCons (cSl (cVar 0) none (some (cC (.int 63)))) cNil)))
  (cSeq (cFor (cRg1 (cC (.int 2))) (.nm 2) (c_law_b4 R))
  (cRet (cAndV (cF2 (fEqD false) (cCall (R 5) (cCons (cLst (cCons (cC (.int 0)) cNil)) cNil)) (cC (.int 1))) (cAndV (cF2 (fEqD false) (cCall (R 6) (cCons (cLst (cCons (cC (.int 0)) cNil)) (cCons (cTup (cCons (cC (.int 0)) (cCons (cC (.int 0)) cNil))) cNil))) (cC (.int 0))) (cF2 (fEqD false) (cCall (R 7) (cCons (cLst (cCons (cC (.int 0)) cNil)) (cCons (cC (.int 0)) cNil))) (cTup (cCons (cC (.int 0)) (cCons (cC (.int 0)) cNil)))))))))
def codeOf (R : Nat → Fn) : Nat → Fn
  | 0 => mkFn 2 (c_is_whole R)
  | 1 => mkFn 2 (c_check_street R)
  | 2 => mkFn 1 (c_many_of R)
  | 3 => mkFn 6 (c_ahead_of R)
  | 4 => mkFn 5 (c_number_at R)
  | 5 => mkFn 1 (c_houses_of R)
  | 6 => mkFn 3 (c_number_of R)
  | 7 => mkFn 9 (c_house_of R)
  | 34 => mkFn 5 (c__law_number R)
  | 35 => mkFn 1 (c__law_whole R)
  | 36 => mkFn 7 (c__law_street R)
  | 37 => mkFn 3 (c__law_some_house R)
  | 38 => mkFn 2 (c__law_is_house R)
  | 39 => mkFn 5 (c__law_every R)
  | 60 => mkFn 5 (c__law_right R)
  | 61 => mkFn 15 (c_law R)
  | _ => fun _ _ => .bad
def run : Nat → Nat → Fn
  | 0 => fun _ _ _ => .bad
  | k + 1 => codeOf (run k)
abbrev TT (K : PySem.W.Frag) : Tb := ⟨K, fun _ => 0, fun _ => [], fun _ => 0⟩
structure Fx (K : PySem.W.Frag) (mg : Str → Option Value) (fs : Nat → Addr) (fd : Nat → FuncData) : Prop where
  d0 : Dn K mg "is_whole" s0 p0 (fs 0) (fd 0)
  d1 : Dn K mg "check_street" s1 p1 (fs 1) (fd 1)
  d2 : Dn K mg "many_of" s2 p2 (fs 2) (fd 2)
  d3 : Dn K mg "ahead_of" s3 p3 (fs 3) (fd 3)
  d4 : Dn K mg "number_at" s4 p4 (fs 4) (fd 4)
  d5 : Dn K mg "houses_of" s5 p5 (fs 5) (fd 5)
  d6 : Dn K mg "number_of" s6 p6 (fs 6) (fd 6)
  d7 : Dn K mg "house_of" s7 p7 (fs 7) (fd 7)
  d34 : Dn K mg "_law_number" s34 p34 (fs 34) (fd 34)
  d35 : Dn K mg "_law_whole" s35 p35 (fs 35) (fd 35)
  d36 : Dn K mg "_law_street" s36 p36 (fs 36) (fd 36)
  d37 : Dn K mg "_law_some_house" s37 p37 (fs 37) (fd 37)
  d38 : Dn K mg "_law_is_house" s38 p38 (fs 38) (fd 38)
  d39 : Dn K mg "_law_every" s39 p39 (fs 39) (fd 39)
  d60 : Dn K mg "_law_right" s60 p60 (fs 60) (fd 60)
  d61 : Dn K mg "law" s61 p61 (fs 61) (fd 61)
  b_all : mg "all" = none
  b_bool : mg "bool" = none
  b_enumerate : mg "enumerate" = none
  b_int : mg "int" = none
  b_isinstance : mg "isinstance" = none
  b_len : mg "len" = none
  b_list : mg "list" = none
  b_max : mg "max" = none
  b_range : mg "range" = none
  b_sorted : mg "sorted" = none
  b_sum : mg "sum" = none
  b_tuple : mg "tuple" = none
  c_MOST : ∃ t, mg "MOST" = some (.int 60 t)
structure Lv (P : Program) (w : World) (K : PySem.W.Frag) (mg : Str → Option Value) (base : Heap) (fs : Nat → Addr) (fd : Nat → FuncData) (k : Nat) : Prop where
  g0 : FnOk P w K mg base CX0 k (fs 0) (fd 0) p0 (spF0 (TT K) (run k 0) p0.length)
  g1 : FnOk P w K mg base CX0 k (fs 1) (fd 1) p1 (spF0 (TT K) (run k 1) p1.length)
  g2 : FnOk P w K mg base CX0 k (fs 2) (fd 2) p2 (spF0 (TT K) (run k 2) p2.length)
  g3 : FnOk P w K mg base CX0 k (fs 3) (fd 3) p3 (spF0 (TT K) (run k 3) p3.length)
  g4 : FnOk P w K mg base CX0 k (fs 4) (fd 4) p4 (spF0 (TT K) (run k 4) p4.length)
  g5 : FnOk P w K mg base CX0 k (fs 5) (fd 5) p5 (spF0 (TT K) (run k 5) p5.length)
  g6 : FnOk P w K mg base CX0 k (fs 6) (fd 6) p6 (spF0 (TT K) (run k 6) p6.length)
  g7 : FnOk P w K mg base CX0 k (fs 7) (fd 7) p7 (spF0 (TT K) (run k 7) p7.length)
  g34 : FnOk P w K mg base CX0 k (fs 34) (fd 34) p34 (spF0 (TT K) (run k 34) p34.length)
  g35 : FnOk P w K mg base CX0 k (fs 35) (fd 35) p35 (spF0 (TT K) (run k 35) p35.length)
  g36 : FnOk P w K mg base CX0 k (fs 36) (fd 36) p36 (spF0 (TT K) (run k 36) p36.length)
  g37 : FnOk P w K mg base CX0 k (fs 37) (fd 37) p37 (spF0 (TT K) (run k 37) p37.length)
  g38 : FnOk P w K mg base CX0 k (fs 38) (fd 38) p38 (spF0 (TT K) (run k 38) p38.length)
  g39 : FnOk P w K mg base CX0 k (fs 39) (fd 39) p39 (spF0 (TT K) (run k 39) p39.length)
  g60 : FnOk P w K mg base CX0 k (fs 60) (fd 60) p60 (spF0 (TT K) (run k 60) p60.length)
  g61 : FnOk P w K mg base CX0 k (fs 61) (fd 61) p61 (spF0 (TT K) (run k 61) p61.length)
section
variable {P : Program} {w : World} {K : PySem.W.Frag} {mg : Str → Option Value} {base : Heap} {fs : Nat → Addr} {fd : Nat → FuncData}
theorem sc0 : FnScope N0 p0 (defScope s0) := ⟨rfl, rfl, rfl, by decide +kernel, rfl, by decide +kernel, by decide +kernel⟩
theorem ok0 (X : Fx K mg fs fd) {k : Nat} (IH : Lv P w K mg base fs fd k) : FnOk P w K mg base CX0 (k + 1) (fs 0) (fd 0) p0 (spF0 (TT K) (run (k + 1) 0) p0.length) := by
  refine X.d0.F.ok sc0 (fun vs H Q E h => h.1) (fun cdv A outer s H vs Q E hr h => ⟨tS (TT K) EF (c_is_whole (run k)), ?_, fn_start (N := N0) (EX := fun _ _ _ => False) h fun _ _ z => z⟩)
  exact (gss_one (gs_ret (ge_and (ge_isi .int rfl ⟨by decide, by decide⟩ (by rfl) X.b_isinstance (by rfl) X.b_int (by decide +kernel) (ge_var (pv 0)) (by decide) (by decide) (by decide +kernel)) (ge_and (ge_not (ge_isi .bl rfl ⟨by decide, by decide⟩ (by rfl) X.b_isinstance (by rfl) X.b_bool (by decide +kernel) (ge_var (pv 0)) (by decide) (by decide) (by decide +kernel))) (ge_one (ge_cmp op_ge sf_ge (ge_var (pv 0)) (ge_var (pv 1)) (nomark _)))))))
theorem sc1 : FnScope N1 p1 (defScope s1) := ⟨rfl, rfl, rfl, by decide +kernel, rfl, by decide +kernel, by decide +kernel⟩
theorem ok1 (X : Fx K mg fs fd) {k : Nat} (IH : Lv P w K mg base fs fd k) : FnOk P w K mg base CX0 (k + 1) (fs 1) (fd 1) p1 (spF0 (TT K) (run (k + 1) 1) p1.length) := by
  refine X.d1.F.ok sc1 (fun vs H Q E h => h.1) (fun cdv A outer s H vs Q E hr h => ⟨tS (TT K) EF (c_check_street (run k)), ?_, fn_start (N := N1) (EX := fun _ _ _ => False) h fun _ _ z => z⟩)
  exact (gss_one (gs_if (PW.pt (gw_or (gt_not (gt_val (ge_isi .lst rfl ⟨by decide, by decide⟩ (by rfl) X.b_isinstance (by rfl) X.b_list (by decide +kernel) (ge_var (pv 0)) (by decide) (by decide) (by decide +kernel)))) (gw_or (gt_not (gt_ch op_le op_le ge_int (ge_callB call_len_seq sf_len (by rfl) X.b_len (by decide +kernel) (ga_cons (ge_var (pv 0)) ga_nil)) (ge_gi rfl X.c_MOST))) (gw_or1 (gt_not (gt_val (ge_callB (cr_all rfl) sf_all (by rfl) X.b_all (by decide +kernel) (ga_cons (ge_lc (own := [("one", 1)]) (t := (.nm 1)) (by decide) rfl sc1.nd (gi_it rfl (ge_var (pv 0))) (blkOk_by (N := N1) (sc := (defScope s1)) (by decide +kernel)) (fun _ _ _ _ _ => (pg_name (i := 1) sc1.nd rfl (Or.inl rfl))) (fun _ _ _ _ _ => gts_nil) (fun _ _ _ _ _ => (ge_call IH.g0 (fun _ _ _ h => h) (fun _ _ h => h) (argN_cons (argN_cons argN_nil)) hr (by rfl) X.d0.g X.d0.F.kp X.d0.b pass0 (ga_cons (ge_var (pv 1)) (ga_cons ge_int ga_nil))))) ga_nil))))))))
    (gss_one gs_raise0)
    gss_nil))
theorem sc2 : FnScope N2 p2 (defScope s2) := ⟨rfl, rfl, rfl, by decide +kernel, rfl, by decide +kernel, by decide +kernel⟩
theorem ok2 (X : Fx K mg fs fd) {k : Nat} (IH : Lv P w K mg base fs fd k) : FnOk P w K mg base CX0 (k + 1) (fs 2) (fd 2) p2 (spF0 (TT K) (run (k + 1) 2) p2.length) := by
  refine X.d2.F.ok sc2 (fun vs H Q E h => h.1) (fun cdv A outer s H vs Q E hr h => ⟨tS (TT K) EF (c_many_of (run k)), ?_, fn_start (N := N2) (EX := fun _ _ _ => False) h fun _ _ z => z⟩)
  exact (gss_one (gs_ret (ge_op (op_or op_add op_cat) sf_add (ge_callB call_len_seq sf_len (by rfl) X.b_len (by decide +kernel) (ga_cons (ge_var (pv 0)) ga_nil)) (ge_callB (cr_sum rfl) sf_sum (by rfl) X.b_sum (by decide +kernel) (ga_cons (ge_var (pv 0)) ga_nil)))))
theorem sc3 : FnScope N3 p3 (defScope s3) := ⟨rfl, rfl, rfl, by decide +kernel, rfl, by decide +kernel, by decide +kernel⟩
theorem ok3 (X : Fx K mg fs fd) {k : Nat} (IH : Lv P w K mg base fs fd k) : FnOk P w K mg base CX0 (k + 1) (fs 3) (fd 3) p3 (spF0 (TT K) (run (k + 1) 3) p3.length) := by
  refine X.d3.F.ok sc3 (fun vs H Q E h => h.1) (fun cdv A outer s H vs Q E hr h => ⟨tS (TT K) EF (c_ahead_of (run k)), ?_, fn_start (N := N3) (EX := fun _ _ _ => False) h fun _ _ z => z⟩)
  exact (gss_cons (gs_asg (t := (.tp [(.nm 2), (.nm 3)])) (ge_tup (ga_cons ge_int (ga_cons ge_int ga_nil))) (pg_tup rfl (pgs_cons (pg_name (i := 2) sc3.nd rfl (Or.inl rfl)) (pgs_cons (pg_name (i := 3) sc3.nd rfl (Or.inl rfl)) pgs_nil))))
    (gss_cons (gs_for (t := (.tp [(.nm 4), (.nm 5)])) PassesOwn.never rfl (gi_en rfl (by rfl) X.b_enumerate (ge_sl rfl (ge_var (pv 0)) .none (.some (ge_var (pv 1))))) (pg_tup rfl (pgs_cons (pg_name (i := 4) sc3.nd rfl (Or.inl rfl)) (pgs_cons (pg_name (i := 5) sc3.nd rfl (Or.inl rfl)) pgs_nil)))
    (gss_cons (gs_aug (i := 2) sc3.nd rfl (Or.inl rfl) (ge_if (gt_cmp (op_or op_eq (op_eqD hr.units)) sf_eq (ge_op op_mod sf_mod (ge_var (pv 4)) ge_int) ge_int (nomark _)) ge_int (ge_var (pv 5))) ip_add)
    (gss_one (gs_aug (i := 3) sc3.nd rfl (Or.inl rfl) (ge_if (gt_cmp (op_or op_eq (op_eqD hr.units)) sf_eq (ge_op op_mod sf_mod (ge_var (pv 4)) ge_int) ge_int (nomark _)) (ge_var (pv 5)) ge_int) ip_add))))
    (gss_one (gs_ret (ge_tup (ga_cons (ge_var (pv 2)) (ga_cons (ge_var (pv 3)) ga_nil)))))))
theorem sc4 : FnScope N4 p4 (defScope s4) := ⟨rfl, rfl, rfl, by decide +kernel, rfl, by decide +kernel, by decide +kernel⟩
theorem ok4 (X : Fx K mg fs fd) {k : Nat} (IH : Lv P w K mg base fs fd k) : FnOk P w K mg base CX0 (k + 1) (fs 4) (fd 4) p4 (spF0 (TT K) (run (k + 1) 4) p4.length) := by
  refine X.d4.F.ok sc4 (fun vs H Q E h => h.1) (fun cdv A outer s H vs Q E hr h => ⟨tS (TT K) EF (c_number_at (run k)), ?_, fn_start (N := N4) (EX := fun _ _ _ => False) h fun _ _ z => z⟩)
  exact (gss_cons (gs_asg (t := (.tp [(.nm 3), (.nm 4)])) (ge_call IH.g3 (fun _ _ _ h => h) (fun _ _ h => h) (argN_cons (argN_cons argN_nil)) hr (by rfl) X.d3.g X.d3.F.kp X.d3.b pass0 (ga_cons (ge_var (pv 0)) (ga_cons (ge_var (pv 1)) ga_nil))) (pg_tup rfl (pgs_cons (pg_name (i := 3) sc4.nd rfl (Or.inl rfl)) (pgs_cons (pg_name (i := 4) sc4.nd rfl (Or.inl rfl)) pgs_nil))))
    (gss_cons (gs_if (gt_cmp (op_or op_eq (op_eqD hr.units)) sf_eq (ge_cmp (op_or op_eq (op_eqD hr.units)) sf_eq (ge_op op_mod sf_mod (ge_var (pv 1)) ge_int) ge_int (nomark _)) (ge_cmp (op_or op_eq (op_eqD hr.units)) sf_eq (ge_var (pv 2)) ge_int (nomark _)) (nomark _))
    (gss_one (gs_ret (ge_op (op_or op_add op_cat) sf_add (ge_var (pv 3)) (ge_callB (call_max2 rfl) sf_max (by rfl) X.b_max (by decide +kernel) (ga_cons ge_int (ga_cons (ge_op op_sub sf_sub (ge_var (pv 2)) ge_int) ga_nil))))))
    gss_nil)
    (gss_one (gs_ret (ge_op op_sub sf_sub (ge_op op_sub sf_sub (ge_op op_sub sf_sub (ge_call IH.g2 (fun _ _ _ h => h) (fun _ _ h => h) (argN_cons argN_nil) hr (by rfl) X.d2.g X.d2.F.kp X.d2.b pass0 (ga_cons (ge_var (pv 0)) ga_nil)) ge_int) (ge_var (pv 4))) (ge_callB (call_max2 rfl) sf_max (by rfl) X.b_max (by decide +kernel) (ga_cons ge_int (ga_cons (ge_op op_sub sf_sub (ge_var (pv 2)) ge_int) ga_nil))))))))
theorem sc5 : FnScope N5 p5 (defScope s5) := ⟨rfl, rfl, rfl, by decide +kernel, rfl, by decide +kernel, by decide +kernel⟩
theorem ok5 (X : Fx K mg fs fd) {k : Nat} (IH : Lv P w K mg base fs fd k) : FnOk P w K mg base CX0 (k + 1) (fs 5) (fd 5) p5 (spF0 (TT K) (run (k + 1) 5) p5.length) := by
  refine X.d5.F.ok sc5 (fun vs H Q E h => h.1) (fun cdv A outer s H vs Q E hr h => ⟨tS (TT K) EF (c_houses_of (run k)), ?_, fn_start (N := N5) (EX := fun _ _ _ => False) h fun _ _ z => z⟩)
  exact (gss_cons (gs_drop (ge_call IH.g1 (fun _ _ _ h => h) (fun _ _ h => h) (argN_cons argN_nil) hr (by rfl) X.d1.g X.d1.F.kp X.d1.b pass0 (ga_cons (ge_var (pv 0)) ga_nil)))
    (gss_one (gs_ret (ge_call IH.g2 (fun _ _ _ h => h) (fun _ _ h => h) (argN_cons argN_nil) hr (by rfl) X.d2.g X.d2.F.kp X.d2.b pass0 (ga_cons (ge_var (pv 0)) ga_nil)))))
theorem sc6 : FnScope N6 p6 (defScope s6) := ⟨rfl, rfl, rfl, by decide +kernel, rfl, by decide +kernel, by decide +kernel⟩
theorem ok6 (X : Fx K mg fs fd) {k : Nat} (IH : Lv P w K mg base fs fd k) : FnOk P w K mg base CX0 (k + 1) (fs 6) (fd 6) p6 (spF0 (TT K) (run (k + 1) 6) p6.length) := by
  refine X.d6.F.ok sc6 (fun vs H Q E h => h.1) (fun cdv A outer s H vs Q E hr h => ⟨tS (TT K) EF (c_number_of (run k)), ?_, fn_start (N := N6) (EX := fun _ _ _ => False) h fun _ _ z => z⟩)
  exact (gss_cons (gs_drop (ge_call IH.g1 (fun _ _ _ h => h) (fun _ _ h => h) (argN_cons argN_nil) hr (by rfl) X.d1.g X.d1.F.kp X.d1.b pass0 (ga_cons (ge_var (pv 0)) ga_nil)))
    (gss_cons (gs_if (PW.pt (gw_or (gt_not (gt_val (ge_isi .tup rfl ⟨by decide, by decide⟩ (by rfl) X.b_isinstance (by rfl) X.b_tuple (by decide +kernel) (ge_var (pv 1)) (by decide) (by decide) (by decide +kernel)))) (gw_or (gt_cmp (op_or op_ne (op_neD hr.units)) sf_ne (ge_callB call_len_seq sf_len (by rfl) X.b_len (by decide +kernel) (ga_cons (ge_var (pv 1)) ga_nil)) ge_int (nomark _)) (gw_or1 (gt_not (gt_val (ge_callB (cr_all rfl) sf_all (by rfl) X.b_all (by decide +kernel) (ga_cons (ge_lc (own := [("one", 2)]) (t := (.nm 2)) (by decide) rfl sc6.nd (gi_it rfl (ge_var (pv 1))) (blkOk_by (N := N6) (sc := (defScope s6)) (by decide +kernel)) (fun _ _ _ _ _ => (pg_name (i := 2) sc6.nd rfl (Or.inl rfl))) (fun _ _ _ _ _ => gts_nil) (fun _ _ _ _ _ => (ge_call IH.g0 (fun _ _ _ h => h) (fun _ _ h => h) (argN_cons (argN_cons argN_nil)) hr (by rfl) X.d0.g X.d0.F.kp X.d0.b pass0 (ga_cons (ge_var (pv 2)) (ga_cons ge_int ga_nil))))) ga_nil))))))))
    (gss_one gs_raise0)
    gss_nil)
    (gss_cons (gs_if (PW.pt (gw_or (gt_cmp op_ge sf_ge (ge_ix ix_seq sf_ix (ge_var (pv 1)) ge_int (fun _ _ => rfl)) (ge_callB call_len_seq sf_len (by rfl) X.b_len (by decide +kernel) (ga_cons (ge_var (pv 0)) ga_nil)) (nomark _)) (gw_or1 (gt_cmp op_gt sf_gt (ge_ix ix_seq sf_ix (ge_var (pv 1)) ge_int (fun _ _ => rfl)) (ge_ix ix_seq sf_ix (ge_var (pv 0)) (ge_ix ix_seq sf_ix (ge_var (pv 1)) ge_int (fun _ _ => rfl)) (fun _ _ => rfl)) (nomark _)))))
    (gss_one gs_raise0)
    gss_nil)
    (gss_one (gs_ret (ge_call IH.g4 (fun _ _ _ h => h) (fun _ _ h => h) (argN_cons (argN_cons (argN_cons argN_nil))) hr (by rfl) X.d4.g X.d4.F.kp X.d4.b pass0 (ga_cons (ge_var (pv 0)) (ga_cons (ge_ix ix_seq sf_ix (ge_var (pv 1)) ge_int (fun _ _ => rfl)) (ga_cons (ge_ix ix_seq sf_ix (ge_var (pv 1)) ge_int (fun _ _ => rfl)) ga_nil)))))))))
theorem sc7 : FnScope N7 p7 (defScope s7) := ⟨rfl, rfl, rfl, by decide +kernel, rfl, by decide +kernel, by decide +kernel⟩
theorem ok7 (X : Fx K mg fs fd) {k : Nat} (IH : Lv P w K mg base fs fd k) : FnOk P w K mg base CX0 (k + 1) (fs 7) (fd 7) p7 (spF0 (TT K) (run (k + 1) 7) p7.length) := by
  refine X.d7.F.ok sc7 (fun vs H Q E h => h.1) (fun cdv A outer s H vs Q E hr h => ⟨tS (TT K) EF (c_house_of (run k)), ?_, fn_start (N := N7) (EX := fun _ _ _ => False) h fun _ _ z => z⟩)
  exact (gss_cons (gs_drop (ge_call IH.g1 (fun _ _ _ h => h) (fun _ _ h => h) (argN_cons argN_nil) hr (by rfl) X.d1.g X.d1.F.kp X.d1.b pass0 (ga_cons (ge_var (pv 0)) ga_nil)))
    (gss_cons (gs_set (i := 2) sc7.nd rfl (Or.inl rfl) (ge_call IH.g2 (fun _ _ _ h => h) (fun _ _ h => h) (argN_cons argN_nil) hr (by rfl) X.d2.g X.d2.F.kp X.d2.b pass0 (ga_cons (ge_var (pv 0)) ga_nil)))
    (gss_cons (gs_if (PW.pt (gw_or (gt_not (gt_val (ge_call IH.g0 (fun _ _ _ h => h) (fun _ _ h => h) (argN_cons (argN_cons argN_nil)) hr (by rfl) X.d0.g X.d0.F.kp X.d0.b pass0 (ga_cons (ge_var (pv 1)) (ga_cons ge_int ga_nil))))) (gw_or1 (gt_cmp op_ge sf_ge (ge_var (pv 1)) (ge_var (pv 2)) (nomark _)))))
    (gss_one gs_raise0)
    gss_nil)
    (gss_cons (gs_set (i := 3) sc7.nd rfl (Or.inl rfl) (ge_ix ix_seq sf_ix (ge_call IH.g3 (fun _ _ _ h => h) (fun _ _ h => h) (argN_cons (argN_cons argN_nil)) hr (by rfl) X.d3.g X.d3.F.kp X.d3.b pass0 (ga_cons (ge_var (pv 0)) (ga_cons (ge_callB call_len_seq sf_len (by rfl) X.b_len (by decide +kernel) (ga_cons (ge_var (pv 0)) ga_nil)) ga_nil))) ge_int (fun _ _ => rfl)))
    (gss_cons (gs_set (i := 4) sc7.nd rfl (Or.inl rfl) (ge_if (gt_cmp op_lt sf_lt (ge_var (pv 1)) (ge_var (pv 3)) (nomark _)) ge_int ge_int))
    (gss_cons (gs_set (i := 5) sc7.nd rfl (Or.inl rfl) (ge_if (gt_cmp (op_or op_eq (op_eqD hr.units)) sf_eq (ge_var (pv 4)) ge_int (nomark _)) (ge_var (pv 1)) (ge_op op_sub sf_sub (ge_op op_sub sf_sub (ge_var (pv 2)) ge_int) (ge_var (pv 1)))))
    (gss_cons (gs_for (t := (.tp [(.nm 6), (.nm 7)])) PassesOwn.never rfl (gi_en rfl (by rfl) X.b_enumerate (ge_var (pv 0))) (pg_tup rfl (pgs_cons (pg_name (i := 6) sc7.nd rfl (Or.inl rfl)) (pgs_cons (pg_name (i := 7) sc7.nd rfl (Or.inl rfl)) pgs_nil)))
    (gss_cons (gs_set (i := 8) sc7.nd rfl (Or.inl rfl) (ge_if (gt_cmp (op_or op_eq (op_eqD hr.units)) sf_eq (ge_op op_mod sf_mod (ge_var (pv 6)) ge_int) (ge_var (pv 4)) (nomark _)) ge_int (ge_var (pv 7))))
    (gss_cons (gs_if (gt_cmp op_lt sf_lt (ge_var (pv 5)) (ge_var (pv 8)) (nomark _))
    (gss_one (gs_ret (ge_tup (ga_cons (ge_var (pv 6)) (ga_cons (ge_if (gt_cmp (op_or op_eq (op_eqD hr.units)) sf_eq (ge_op op_mod sf_mod (ge_var (pv 6)) ge_int) (ge_var (pv 4)) (nomark _)) ge_int (ge_op (op_or op_add op_cat) sf_add (ge_var (pv 5)) ge_int)) ga_nil)))))
    gss_nil)
    (gss_one (gs_aug (i := 5) sc7.nd rfl (Or.inl rfl) (ge_var (pv 8)) ip_sub)))))
    (gss_one (gs_ret ge_non)))))))))
theorem sc34 : FnScope N34 p34 (defScope s34) := ⟨rfl, rfl, rfl, by decide +kernel, rfl, by decide +kernel, by decide +kernel⟩
theorem ok34 (X : Fx K mg fs fd) {k : Nat} (IH : Lv P w K mg base fs fd k) : FnOk P w K mg base CX0 (k + 1) (fs 34) (fd 34) p34 (spF0 (TT K) (run (k + 1) 34) p34.length) := by
  refine X.d34.F.ok sc34 (fun vs H Q E h => h.1) (fun cdv A outer s H vs Q E hr h => ⟨tS (TT K) EF (c__law_number (run k)), ?_, fn_start (N := N34) (EX := fun _ _ _ => False) h fun _ _ z => z⟩)
  exact (gss_cons (gs_if (gt_cmp op_ge sf_ge (ge_var (pv 0)) (ge_op op_pow sf_pow ge_int ge_int) (nomark _))
    (gss_one (gs_ret (ge_var (pv 0))))
    gss_nil)
    (gss_cons (gs_set (i := 3) sc34.nd rfl (Or.inl rfl) (ge_op op_mod sf_mod (ge_op (op_or op_add op_cat) sf_add (ge_op (op_or op_mulB op_rep) sf_mul (ge_op (op_or op_add op_cat) sf_add (ge_var (pv 0)) (ge_op (op_or op_mulB op_rep) sf_mul ge_int (ge_var (pv 1)))) ge_int) (ge_var (pv 2))) ge_int))
    (gss_cons (gs_set (i := 4) sc34.nd rfl (Or.inl rfl) (ge_op (op_or op_mulB op_rep) sf_mul (ge_op (op_or op_mulB op_rep) sf_mul (ge_var (pv 3)) (ge_op (op_or op_add op_cat) sf_add (ge_op (op_or op_add op_cat) sf_add (ge_var (pv 3)) (ge_op (op_or op_mulB op_rep) sf_mul ge_int (ge_var (pv 1)))) ge_int)) (ge_op (op_or op_add op_cat) sf_add (ge_op (op_or op_add op_cat) sf_add (ge_var (pv 3)) (ge_var (pv 0))) ge_int)))
    (gss_one (gs_ret (ge_op op_fdiv sf_div (ge_op (op_or op_mulB op_rep) sf_mul (ge_var (pv 4)) (ge_op (op_or op_add op_cat) sf_add (ge_var (pv 4)) ge_int)) ge_int))))))
theorem sc35 : FnScope N35 p35 (defScope s35) := ⟨rfl, rfl, rfl, by decide +kernel, rfl, by decide +kernel, by decide +kernel⟩
theorem ok35 (X : Fx K mg fs fd) {k : Nat} (IH : Lv P w K mg base fs fd k) : FnOk P w K mg base CX0 (k + 1) (fs 35) (fd 35) p35 (spF0 (TT K) (run (k + 1) 35) p35.length) := by
  refine X.d35.F.ok sc35 (fun vs H Q E h => h.1) (fun cdv A outer s H vs Q E hr h => ⟨tS (TT K) EF (c__law_whole (run k)), ?_, fn_start (N := N35) (EX := fun _ _ _ => False) h fun _ _ z => z⟩)
  exact (gss_one (gs_ret (ge_and (ge_isi .int rfl ⟨by decide, by decide⟩ (by rfl) X.b_isinstance (by rfl) X.b_int (by decide +kernel) (ge_var (pv 0)) (by decide) (by decide) (by decide +kernel)) (ge_one (ge_not (ge_isi .bl rfl ⟨by decide, by decide⟩ (by rfl) X.b_isinstance (by rfl) X.b_bool (by decide +kernel) (ge_var (pv 0)) (by decide) (by decide) (by decide +kernel)))))))
theorem sc36 : FnScope N36 p36 (defScope s36) := ⟨rfl, rfl, rfl, by decide +kernel, rfl, by decide +kernel, by decide +kernel⟩
theorem ok36 (X : Fx K mg fs fd) {k : Nat} (IH : Lv P w K mg base fs fd k) : FnOk P w K mg base CX0 (k + 1) (fs 36) (fd 36) p36 (spF0 (TT K) (run (k + 1) 36) p36.length) := by
  refine X.d36.F.ok sc36 (fun vs H Q E h => h.1) (fun cdv A outer s H vs Q E hr h => ⟨tS (TT K) EF (c__law_street (run k)), ?_, fn_start (N := N36) (EX := fun _ _ _ => False) h fun _ _ z => z⟩)
  exact (gss_cons (gs_set (i := 2) sc36.nd rfl (Or.inr rfl) (ge_if (gt_cmp (op_or op_ne (op_neD hr.units)) sf_ne (ge_var (pv 0)) (ge_lst ga_nil) (nomark _)) (ge_sl rfl (ge_var (pv 0)) .none (.some ge_int)) (ge_lst (ga_cons ge_int ga_nil))))
    (gss_cons (gs_set (i := 3) sc36.nd rfl (Or.inr rfl) (ge_op (op_or op_add op_cat) sf_add (ge_callB (cr_sum rfl) sf_sum (by rfl) X.b_sum (by decide +kernel) (ga_cons (ge_var (pv 2)) ga_nil)) (ge_var (pv 1))))
    (gss_cons (gs_set (i := 4) sc36.nd rfl (Or.inl rfl) (ge_ix ix_seq sf_ix (ge_tup (ga_cons (ge_op (op_or op_add op_cat) sf_add ge_int (ge_op op_mod sf_mod (ge_var (pv 3)) ge_int)) (ga_cons (ge_op (op_or op_add op_cat) sf_add ge_int (ge_op op_mod sf_mod (ge_op op_fdiv sf_div (ge_var (pv 3)) ge_int) ge_int)) ga_nil))) (ge_op op_mod sf_mod (ge_op op_fdiv sf_div (ge_var (pv 3)) ge_int) ge_int) (fun _ _ => rfl)))
    (gss_cons (gs_set (i := 5) sc36.nd rfl (Or.inr rfl) (ge_ix ix_seq sf_ix (ge_tup (ga_cons ge_int (ga_cons ge_int (ga_cons (ge_op op_pow sf_pow ge_int ge_int) (ga_cons (ge_op op_pow sf_pow ge_int ge_int) ga_nil))))) (ge_op op_mod sf_mod (ge_op op_fdiv sf_div (ge_var (pv 3)) ge_int) ge_int) (fun _ _ => rfl)))
    (gss_one (gs_ret (ge_lc (own := [("_law_at", 6)]) (t := (.nm 6)) (by decide) rfl sc36.nd (gi_rg1 (by rfl) X.b_range (ge_var (pv 4))) (blkOk_by (N := N36) (sc := (defScope s36)) (by decide +kernel)) (fun _ _ _ _ _ => (pg_name (i := 6) sc36.nd rfl (Or.inl rfl))) (fun _ _ _ _ _ => gts_nil) (fun _ _ _ _ _ => (ge_op op_mod sf_mod (ge_op op_fdiv sf_div (ge_call IH.g34 (fun _ _ _ h => h) (fun _ _ h => h) (argN_cons (argN_cons (argN_cons argN_nil))) hr (by rfl) X.d34.g X.d34.F.kp X.d34.b pass0 (ga_cons (ge_ix ix_seq sf_ix (ge_var (pv 2)) (ge_op op_mod sf_mod (ge_op (op_or op_add op_cat) sf_add (ge_var (pv 6)) (ge_var (pv 1))) (ge_callB call_len_seq sf_len (by rfl) X.b_len (by decide +kernel) (ga_cons (ge_var (pv 2)) ga_nil))) (fun _ _ => rfl)) (ga_cons (ge_op (op_or op_add op_cat) sf_add (ge_var (pv 6)) (ge_var (pv 1))) (ga_cons (ge_var (pv 3)) ga_nil)))) ge_int) (ge_var (pv 5)))))))))))
theorem sc37 : FnScope N37 p37 (defScope s37) := ⟨rfl, rfl, rfl, by decide +kernel, rfl, by decide +kernel, by decide +kernel⟩
theorem ok37 (X : Fx K mg fs fd) {k : Nat} (IH : Lv P w K mg base fs fd k) : FnOk P w K mg base CX0 (k + 1) (fs 37) (fd 37) p37 (spF0 (TT K) (run (k + 1) 37) p37.length) := by
  refine X.d37.F.ok sc37 (fun vs H Q E h => h.1) (fun cdv A outer s H vs Q E hr h => ⟨tS (TT K) EF (c__law_some_house (run k)), ?_, fn_start (N := N37) (EX := fun _ _ _ => False) h fun _ _ z => z⟩)
  exact (gss_cons (gs_set (i := 2) sc37.nd rfl (Or.inl rfl) (ge_op op_mod sf_mod (ge_var (pv 1)) (ge_callB call_len_seq sf_len (by rfl) X.b_len (by decide +kernel) (ga_cons (ge_var (pv 0)) ga_nil))))
    (gss_one (gs_ret (ge_tup (ga_cons (ge_var (pv 2)) (ga_cons (ge_op op_mod sf_mod (ge_op op_fdiv sf_div (ge_var (pv 1)) ge_int) (ge_op (op_or op_add op_cat) sf_add (ge_ix ix_seq sf_ix (ge_var (pv 0)) (ge_var (pv 2)) (fun _ _ => rfl)) ge_int)) ga_nil))))))
theorem sc38 : FnScope N38 p38 (defScope s38) := ⟨rfl, rfl, rfl, by decide +kernel, rfl, by decide +kernel, by decide +kernel⟩
theorem ok38 (X : Fx K mg fs fd) {k : Nat} (IH : Lv P w K mg base fs fd k) : FnOk P w K mg base CX0 (k + 1) (fs 38) (fd 38) p38 (spF0 (TT K) (run (k + 1) 38) p38.length) := by
  refine X.d38.F.ok sc38 (fun vs H Q E h => h.1) (fun cdv A outer s H vs Q E hr h => ⟨tS (TT K) EF (c__law_is_house (run k)), ?_, fn_start (N := N38) (EX := fun _ _ _ => False) h fun _ _ z => z⟩)
  exact (gss_cons (gs_if (PW.pt (gw_or (gt_not (gt_val (ge_isi .tup rfl ⟨by decide, by decide⟩ (by rfl) X.b_isinstance (by rfl) X.b_tuple (by decide +kernel) (ge_var (pv 1)) (by decide) (by decide) (by decide +kernel)))) (gw_or (gt_cmp (op_or op_ne (op_neD hr.units)) sf_ne (ge_callB call_len_seq sf_len (by rfl) X.b_len (by decide +kernel) (ga_cons (ge_var (pv 1)) ga_nil)) ge_int (nomark _)) (gw_or (gt_not (gt_val (ge_call IH.g35 (fun _ _ _ h => h) (fun _ _ h => h) (argN_cons argN_nil) hr (by rfl) X.d35.g X.d35.F.kp X.d35.b pass0 (ga_cons (ge_ix ix_seq sf_ix (ge_var (pv 1)) ge_int (fun _ _ => rfl)) ga_nil)))) (gw_or1 (gt_not (gt_val (ge_call IH.g35 (fun _ _ _ h => h) (fun _ _ h => h) (argN_cons argN_nil) hr (by rfl) X.d35.g X.d35.F.kp X.d35.b pass0 (ga_cons (ge_ix ix_seq sf_ix (ge_var (pv 1)) ge_int (fun _ _ => rfl)) ga_nil)))))))))
    (gss_one (gs_ret ge_bl))
    gss_nil)
    (gss_one (gs_ret (ge_and (ge_ch op_le op_lt ge_int (ge_ix ix_seq sf_ix (ge_var (pv 1)) ge_int (fun _ _ => rfl)) (ge_callB call_len_seq sf_len (by rfl) X.b_len (by decide +kernel) (ga_cons (ge_var (pv 0)) ga_nil))) (ge_one (ge_ch op_le op_le ge_int (ge_ix ix_seq sf_ix (ge_var (pv 1)) ge_int (fun _ _ => rfl)) (ge_ix ix_seq sf_ix (ge_var (pv 0)) (ge_ix ix_seq sf_ix (ge_var (pv 1)) ge_int (fun _ _ => rfl)) (fun _ _ => rfl))))))))
theorem sc39 : FnScope N39 p39 (defScope s39) := ⟨rfl, rfl, rfl, by decide +kernel, rfl, by decide +kernel, by decide +kernel⟩
theorem ok39 (X : Fx K mg fs fd) {k : Nat} (IH : Lv P w K mg base fs fd k) : FnOk P w K mg base CX0 (k + 1) (fs 39) (fd 39) p39 (spF0 (TT K) (run (k + 1) 39) p39.length) := by
  refine X.d39.F.ok sc39 (fun vs H Q E h => h.1) (fun cdv A outer s H vs Q E hr h => ⟨tS (TT K) EF (c__law_every (run k)), ?_, fn_start (N := N39) (EX := fun _ _ _ => False) h fun _ _ z => z⟩)
  exact (gss_cons (gs_set (i := 1) sc39.nd rfl (Or.inl rfl) (ge_lst ga_nil))
    (gss_cons (gs_for (t := (.tp [(.nm 2), (.nm 3)])) PassesOwn.never rfl (gi_en rfl (by rfl) X.b_enumerate (ge_var (pv 0))) (pg_tup rfl (pgs_cons (pg_name (i := 2) sc39.nd rfl (Or.inr rfl)) (pgs_cons (pg_name (i := 3) sc39.nd rfl (Or.inl rfl)) pgs_nil)))
    (gss_one (gs_set (i := 1) sc39.nd rfl (Or.inl rfl) (ge_op (op_or op_add op_cat) sf_add (ge_var (pv 1)) (ge_lc (own := [("_law_place", 4)]) (t := (.nm 4)) (by decide) rfl sc39.nd (gi_rg1 (by rfl) X.b_range (ge_op (op_or op_add op_cat) sf_add (ge_var (pv 3)) ge_int)) (blkOk_by (N := N39) (sc := (defScope s39)) (by decide +kernel)) (fun _ _ _ _ _ => (pg_name (i := 4) sc39.nd rfl (Or.inl rfl))) (fun _ _ _ _ _ => gts_nil) (fun _ _ _ _ _ => (ge_tup (ga_cons (ge_var (pv 2)) (ga_cons (ge_var (pv 4)) ga_nil)))))))))
    (gss_one (gs_ret (ge_var (pv 1))))))
theorem sc60 : FnScope N60 p60 (defScope s60) := ⟨rfl, rfl, rfl, by decide +kernel, rfl, by decide +kernel, by decide +kernel⟩
theorem ok60 (X : Fx K mg fs fd) {k : Nat} (IH : Lv P w K mg base fs fd k) : FnOk P w K mg base CX0 (k + 1) (fs 60) (fd 60) p60 (spF0 (TT K) (run (k + 1) 60) p60.length) := by
  refine X.d60.F.ok sc60 (fun vs H Q E h => h.1) (fun cdv A outer s H vs Q E hr h => ⟨tS (TT K) EF (c__law_right (run k)), ?_, fn_start (N := N60) (EX := fun _ _ _ => False) h fun _ _ z => z⟩)
  exact (gss_cons (gs_set (i := 3) sc60.nd rfl (Or.inl rfl) (ge_call IH.g6 (fun _ _ _ h => h) (fun _ _ h => h) (argN_cons (argN_cons argN_nil)) hr (by rfl) X.d6.g X.d6.F.kp X.d6.b pass0 (ga_cons (ge_var (pv 0)) (ga_cons (ge_var (pv 1)) ga_nil))))
    (gss_cons (gs_if (PW.pt (gw_or (gt_not (gt_val (ge_call IH.g35 (fun _ _ _ h => h) (fun _ _ h => h) (argN_cons argN_nil) hr (by rfl) X.d35.g X.d35.F.kp X.d35.b pass0 (ga_cons (ge_var (pv 3)) ga_nil)))) (gw_or (gt_not (gt_ch op_le op_lt ge_int (ge_var (pv 3)) (ge_var (pv 2)))) (gw_or1 (gt_cmp (op_or op_ne (op_neD hr.units)) sf_ne (ge_call IH.g6 (fun _ _ _ h => h) (fun _ _ h => h) (argN_cons (argN_cons argN_nil)) hr (by rfl) X.d6.g X.d6.F.kp X.d6.b pass0 (ga_cons (ge_var (pv 0)) (ga_cons (ge_var (pv 1)) ga_nil))) (ge_var (pv 3)) (nomark _))))))
    (gss_one (gs_ret ge_bl))
    gss_nil)
    (gss_cons (gs_set (i := 4) sc60.nd rfl (Or.inl rfl) (ge_call IH.g7 (fun _ _ _ h => h) (fun _ _ h => h) (argN_cons (argN_cons argN_nil)) hr (by rfl) X.d7.g X.d7.F.kp X.d7.b pass0 (ga_cons (ge_var (pv 0)) (ga_cons (ge_var (pv 3)) ga_nil))))
    (gss_one (gs_ret (ge_and (ge_call IH.g38 (fun _ _ _ h => h) (fun _ _ h => h) (argN_cons (argN_cons argN_nil)) hr (by rfl) X.d38.g X.d38.F.kp X.d38.b pass0 (ga_cons (ge_var (pv 0)) (ga_cons (ge_var (pv 4)) ga_nil))) (ge_one (ge_cmp (op_or op_eq (op_eqD hr.units)) sf_eq (ge_var (pv 4)) (ge_var (pv 1)) (nomark _)))))))))
theorem sc61 : FnScope N61 p61 (defScope s61) := ⟨rfl, rfl, rfl, by decide +kernel, rfl, by decide +kernel, by decide +kernel⟩
theorem ok61 (X : Fx K mg fs fd) {k : Nat} (IH : Lv P w K mg base fs fd k) : FnOk P w K mg base CX0 (k + 1) (fs 61) (fd 61) p61 (spF0 (TT K) (run (k + 1) 61) p61.length) := by
  refine X.d61.F.ok sc61 (fun vs H Q E h => h.1) (fun cdv A outer s H vs Q E hr h => ⟨tS (TT K) EF (c_law (run k)), ?_, fn_start (N := N61) (EX := fun _ _ _ => False) h fun _ _ z => z⟩)
  exact (gss_cons (gs_set (i := 1) sc61.nd rfl (Or.inl rfl) (ge_callB (cr_sum rfl) sf_sum (by rfl) X.b_sum (by decide +kernel) (ga_cons (ge_sl rfl (ge_var (pv 0)) .none (.some ge_int)) ga_nil)))
    (gss_cons (gs_for (t := (.nm 2)) PassesOwn.never rfl (gi_rg1 (by rfl) X.b_range ge_int) (pg_name (i := 2) sc61.nd rfl (Or.inl rfl))
    (gss_cons (gs_set (i := 3) sc61.nd rfl (Or.inr rfl) (ge_call IH.g36 (fun _ _ _ h => h) (fun _ _ h => h) (argN_cons (argN_cons argN_nil)) hr (by rfl) X.d36.g X.d36.F.kp X.d36.b pass0 (ga_cons (ge_var (pv 0)) (ga_cons (ge_var (pv 2)) ga_nil))))
    (gss_cons (gs_asg (t := (.tp [(.nm 4), (.nm 5)])) (ge_tup (ga_cons (ge_callTy call_list_of sf_list (by rfl) X.b_list (by decide +kernel) (ga_cons (ge_var (pv 3)) ga_nil)) (ga_cons (ge_op (op_or op_add op_cat) sf_add (ge_callB call_len_seq sf_len (by rfl) X.b_len (by decide +kernel) (ga_cons (ge_var (pv 3)) ga_nil)) (ge_callB (cr_sum rfl) sf_sum (by rfl) X.b_sum (by decide +kernel) (ga_cons (ge_var (pv 3)) ga_nil))) ga_nil))) (pg_tup rfl (pgs_cons (pg_name (i := 4) sc61.nd rfl (Or.inl rfl)) (pgs_cons (pg_name (i := 5) sc61.nd rfl (Or.inr rfl)) pgs_nil))))
    (gss_cons (gs_set (i := 6) sc61.nd rfl (Or.inl rfl) (ge_call IH.g5 (fun _ _ _ h => h) (fun _ _ h => h) (argN_cons argN_nil) hr (by rfl) X.d5.g X.d5.F.kp X.d5.b pass0 (ga_cons (ge_var (pv 3)) ga_nil)))
    (gss_cons (gs_if (PW.pt (gw_or (gt_not (gt_val (ge_call IH.g35 (fun _ _ _ h => h) (fun _ _ h => h) (argN_cons argN_nil) hr (by rfl) X.d35.g X.d35.F.kp X.d35.b pass0 (ga_cons (ge_var (pv 6)) ga_nil)))) (gw_or1 (gt_cmp (op_or op_ne (op_neD hr.units)) sf_ne (ge_var (pv 6)) (ge_var (pv 5)) (nomark _)))))
    (gss_one (gs_ret ge_bl))
    gss_nil)
    (gss_cons (gs_set (i := 7) sc61.nd rfl (Or.inl rfl) (ge_op op_sub sf_sub (ge_callB call_len_seq sf_len (by rfl) X.b_len (by decide +kernel) (ga_cons (ge_var (pv 3)) ga_nil)) ge_int))
    (gss_cons (gs_set (i := 8) sc61.nd rfl (Or.inl rfl) (ge_lst (ga_cons (ge_tup (ga_cons ge_int (ga_cons ge_int ga_nil))) (ga_cons (ge_tup (ga_cons (ge_var (pv 7)) (ga_cons ge_int ga_nil))) (ga_cons (ge_tup (ga_cons (ge_var (pv 7)) (ga_cons (ge_ix ix_seq sf_ix (ge_var (pv 3)) (ge_var (pv 7)) (fun _ _ => rfl)) ga_nil))) (ga_cons (ge_tup (ga_cons ge_int (ga_cons (ge_ix ix_seq sf_ix (ge_var (pv 3)) ge_int (fun _ _ => rfl)) ga_nil))) ga_nil))))))
    (gss_cons (gs_set (i := 9) sc61.nd rfl (Or.inl rfl) (ge_lst (ga_cons ge_int (ga_cons (ge_op op_sub sf_sub (ge_var (pv 5)) ge_int) (ga_cons (ge_op op_fdiv sf_div (ge_var (pv 5)) ge_int) ga_nil)))))
    (gss_cons (gs_for (t := (.tp [(.nm 10), (.nm 11)])) PassesOwn.never rfl (gi_en rfl (by rfl) X.b_enumerate (ge_op (op_or op_add op_cat) sf_add (ge_lst (ga_cons (ge_var (pv 1)) ga_nil)) (ge_sl rfl (ge_var (pv 0)) .none (.some ge_int)))) (pg_tup rfl (pgs_cons (pg_name (i := 10) sc61.nd rfl (Or.inl rfl)) (pgs_cons (pg_name (i := 11) sc61.nd rfl (Or.inl rfl)) pgs_nil)))
    (gss_cons (gs_set (i := 12) sc61.nd rfl (Or.inl rfl) (ge_call IH.g34 (fun _ _ _ h => h) (fun _ _ h => h) (argN_cons (argN_cons (argN_cons argN_nil))) hr (by rfl) X.d34.g X.d34.F.kp X.d34.b pass0 (ga_cons (ge_var (pv 11)) (ga_cons (ge_op (op_or op_add op_cat) sf_add (ge_var (pv 10)) ge_int) (ga_cons (ge_var (pv 1)) ga_nil)))))
    (gss_cons (gs_drop (ge_m rfl PySem.F.slot_list_append PySem.F.type_list_append mt_append sf_append (ge_var (pv 8)) (ga_cons (ge_call IH.g37 (fun _ _ _ h => h) (fun _ _ h => h) (argN_cons (argN_cons argN_nil)) hr (by rfl) X.d37.g X.d37.F.kp X.d37.b pass0 (ga_cons (ge_var (pv 3)) (ga_cons (ge_var (pv 12)) ga_nil))) ga_nil)))
    (gss_one (gs_drop (ge_m rfl PySem.F.slot_list_append PySem.F.type_list_append mt_append sf_append (ge_var (pv 9)) (ga_cons (ge_op op_mod sf_mod (ge_op op_fdiv sf_div (ge_var (pv 12)) ge_int) (ge_var (pv 5))) ga_nil)))))))
    (gss_cons (gs_if (gt_cmp op_lt sf_lt (ge_var (pv 5)) ge_int (nomark _))
    (gss_cons (gs_set (i := 8) sc61.nd rfl (Or.inl rfl) (ge_call IH.g39 (fun _ _ _ h => h) (fun _ _ h => h) (argN_cons argN_nil) hr (by rfl) X.d39.g X.d39.F.kp X.d39.b pass0 (ga_cons (ge_var (pv 3)) ga_nil)))
    (gss_one (gs_if (gt_cmp (op_or op_ne (op_neD hr.units)) sf_ne (ge_callB cr_sortedI sf_sorted (by rfl) X.b_sorted (by decide +kernel) (ga_cons (ge_lc (own := [("_law_house", 14)]) (t := (.nm 14)) (by decide) rfl sc61.nd (gi_it rfl (ge_var (pv 8))) (blkOk_by (N := N61) (sc := (defScope s61)) (by decide +kernel)) (fun _ _ _ _ _ => (pg_name (i := 14) sc61.nd rfl (Or.inl rfl))) (fun _ _ _ _ _ => gts_nil) (fun _ _ _ _ _ => (ge_call IH.g6 (fun _ _ _ h => h) (fun _ _ h => h) (argN_cons (argN_cons argN_nil)) hr (by rfl) X.d6.g X.d6.F.kp X.d6.b pass0 (ga_cons (ge_var (pv 3)) (ga_cons (ge_var (pv 14)) ga_nil))))) ga_nil)) (ge_listRg1 rfl (by rfl) X.b_list (by rfl) X.b_range (ge_var (pv 5))) (nomark _))
    (gss_one (gs_ret ge_bl))
    gss_nil)))
    gss_nil)
    (gss_cons (gs_if (gt_not (gt_val (ge_callB (cr_all rfl) sf_all (by rfl) X.b_all (by decide +kernel) (ga_cons (ge_lc (own := [("_law_house", 14)]) (t := (.nm 14)) (by decide) rfl sc61.nd (gi_it rfl (ge_var (pv 8))) (blkOk_by (N := N61) (sc := (defScope s61)) (by decide +kernel)) (fun _ _ _ _ _ => (pg_name (i := 14) sc61.nd rfl (Or.inl rfl))) (fun _ _ _ _ _ => gts_nil) (fun _ _ _ _ _ => (ge_call IH.g60 (fun _ _ _ h => h) (fun _ _ h => h) (argN_cons (argN_cons (argN_cons argN_nil))) hr (by rfl) X.d60.g X.d60.F.kp X.d60.b pass0 (ga_cons (ge_var (pv 3)) (ga_cons (ge_var (pv 14)) (ga_cons (ge_var (pv 5)) ga_nil)))))) ga_nil))))
    (gss_one (gs_ret ge_bl))
    gss_nil)
    (gss_cons (gs_for (t := (.nm 12)) PassesOwn.never rfl (gi_it rfl (ge_var (pv 9))) (pg_name (i := 12) sc61.nd rfl (Or.inl rfl))
    (gss_cons (gs_set (i := 13) sc61.nd rfl (Or.inl rfl) (ge_call IH.g7 (fun _ _ _ h => h) (fun _ _ h => h) (argN_cons (argN_cons argN_nil)) hr (by rfl) X.d7.g X.d7.F.kp X.d7.b pass0 (ga_cons (ge_var (pv 3)) (ga_cons (ge_var (pv 12)) ga_nil))))
    (gss_cons (gs_if (PW.pt (gw_or (gt_not (gt_val (ge_call IH.g38 (fun _ _ _ h => h) (fun _ _ h => h) (argN_cons (argN_cons argN_nil)) hr (by rfl) X.d38.g X.d38.F.kp X.d38.b pass0 (ga_cons (ge_var (pv 3)) (ga_cons (ge_var (pv 13)) ga_nil))))) (gw_or1 (gt_cmp (op_or op_ne (op_neD hr.units)) sf_ne (ge_call IH.g6 (fun _ _ _ h => h) (fun _ _ h => h) (argN_cons (argN_cons argN_nil)) hr (by rfl) X.d6.g X.d6.F.kp X.d6.b pass0 (ga_cons (ge_var (pv 3)) (ga_cons (ge_var (pv 13)) ga_nil))) (ge_var (pv 12)) (nomark _)))))
    (gss_one (gs_ret ge_bl))
    gss_nil)
    (gss_one (gs_if (gt_cmp (op_or op_ne (op_neD hr.units)) sf_ne (ge_call IH.g7 (fun _ _ _ h => h) (fun _ _ h => h) (argN_cons (argN_cons argN_nil)) hr (by rfl) X.d7.g X.d7.F.kp X.d7.b pass0 (ga_cons (ge_var (pv 3)) (ga_cons (ge_var (pv 12)) ga_nil))) (ge_var (pv 13)) (nomark _))
    (gss_one (gs_ret ge_bl))
    gss_nil)))))
    (gss_one (gs_if (gt_cmp (op_or op_ne (op_neD hr.units)) sf_ne (ge_var (pv 3)) (ge_var (pv 4)) (nomark _))
    (gss_one (gs_ret ge_bl))
    gss_nil))))))))))))))
    (gss_one (gs_ret (ge_and (ge_cmp (op_or op_eq (op_eqD hr.units)) sf_eq (ge_call IH.g5 (fun _ _ _ h => h) (fun _ _ h => h) (argN_cons argN_nil) hr (by rfl) X.d5.g X.d5.F.kp X.d5.b pass0 (ga_cons (ge_lst (ga_cons ge_int ga_nil)) ga_nil)) ge_int (nomark _)) (ge_and (ge_cmp (op_or op_eq (op_eqD hr.units)) sf_eq (ge_call IH.g6 (fun _ _ _ h => h) (fun _ _ h => h) (argN_cons (argN_cons argN_nil)) hr (by rfl) X.d6.g X.d6.F.kp X.d6.b pass0 (ga_cons (ge_lst (ga_cons ge_int ga_nil)) (ga_cons (ge_tup (ga_cons ge_int (ga_cons ge_int ga_nil))) ga_nil))) ge_int (nomark _)) (ge_one (ge_cmp (op_or op_eq (op_eqD hr.units)) sf_eq (ge_call IH.g7 (fun _ _ _ h => h) (fun _ _ h => h) (argN_cons (argN_cons argN_nil)) hr (by rfl) X.d7.g X.d7.F.kp X.d7.b pass0 (ga_cons (ge_lst (ga_cons ge_int ga_nil)) (ga_cons ge_int ga_nil))) (ge_tup (ga_cons ge_int (ga_cons ge_int ga_nil))) (nomark _)))))))))
theorem lv (X : Fx K mg fs fd) : ∀ k, Lv P w K mg base fs fd k
  | 0 => ⟨fn_zero0 fun _ _ => rfl, fn_zero0 fun _ _ => rfl, fn_zero0 fun _ _ => rfl, fn_zero0 fun _ _ => rfl, fn_zero0 fun _ _ => rfl, fn_zero0 fun _ _ => rfl, fn_zero0 fun _ _ => rfl, fn_zero0 fun _ _ => rfl, fn_zero0 fun _ _ => rfl, fn_zero0 fun _ _ => rfl, fn_zero0 fun _ _ => rfl, fn_zero0 fun _ _ => rfl, fn_zero0 fun _ _ => rfl, fn_zero0 fun _ _ => rfl, fn_zero0 fun _ _ => rfl, fn_zero0 fun _ _ => rfl⟩
  | k + 1 => ⟨ok0 X (lv X k), ok1 X (lv X k), ok2 X (lv X k), ok3 X (lv X k), ok4 X (lv X k), ok5 X (lv X k), ok6 X (lv X k), ok7 X (lv X k), ok34 X (lv X k), ok35 X (lv X k), ok36 X (lv X k), ok37 X (lv X k), ok38 X (lv X k), ok39 X (lv X k), ok60 X (lv X k), ok61 X (lv X k)⟩
end
end G

set_option Elab.async false
set_option linter.all false
set_option maxRecDepth 100000
set_option maxHeartbeats 2000000
set_option autoImplicit false
namespace G
open PySem PySem.Spec PyProof.Rows L2 Ab
variable {R : Nat → Fn}
structure Rk (R : Nat → Fn) : Prop where
  h5 : HousesOf (R 5)
  h6 : NumberOf (R 6)
  h7 : HouseOf (R 7)
  h34 : LawNumber (R 34)
  h35 : LawWhole (R 35)
  h36 : LawStreet (R 36)
  h37 : LawSomeHouse (R 37)
  h38 : LawIsHouse (R 38)
  h39 : LawEvery (R 39)
def LawRight (f : Fn) : Prop := ∀ A l xs q, LA A l xs → Street xs → M.IsH xs q.1 q.2 → f [.loc l, pr q, .int (M.many xs)] A = .ok (.bl true) A
theorem house_eq {A : AH} {l : Nat} {xs : List Int} (h7 : HouseOf (R 7)) (h : LA A l xs) (st : Street xs) {q : Nat × Int} (hq : M.IsH xs q.1 q.2) : R 7 [.loc l, .int (M.numAt xs q.1 q.2)] A = .ok (pr q) A := by
  obtain ⟨a, b, c⟩ := M.num_ok st.nn hq
  exact h7 A l xs _ q.1 q.2 h st a b c
theorem law_right_ok (h6 : NumberOf (R 6)) (h7 : HouseOf (R 7)) (h35 : LawWhole (R 35)) (h38 : LawIsHouse (R 38)) : LawRight (mkFn 5 (c__law_right R)) := fun A l xs q h st hq => by
  obtain ⟨a, b, c⟩ := M.num_ok st.nn hq
  have e6 := h6 A l xs q.1 q.2 h st hq
  have e7 := house_eq h7 h st hq
  have e38 := h38 A l xs q h hq
  have ebox : box (pr q) A = (pr q, A) := box_tup (by simp)
  simp only [mkFn, c__law_right, List.map_cons, List.map_nil, List.length_cons, List.length_nil, Nat.zero_add, Nat.reduceAdd, Nat.reduceSub, List.replicate, List.cons_append, List.nil_append]
  rw [seq_nx (s := [some (.loc l), some (pr q), some (.int (M.many xs)), some (.int (M.numAt xs q.1 q.2)), none]) (A1 := A) (by simp [cPut, ebox, e6])]
  rw [seq_nx (s := [some (.loc l), some (pr q), some (.int (M.many xs)), some (.int (M.numAt xs q.1 q.2)), none]) (A1 := A) (by simp [ebox, e6, h35 A, cCh, a, b])]
  rw [seq_nx (s := [some (.loc l), some (pr q), some (.int (M.many xs)), some (.int (M.numAt xs q.1 q.2)), some (pr q)]) (A1 := A) (by simp [cPut, ebox, e7])]
  simp [ebox, e38, fEq_pairs]
/-- the state of the law's turn -/
abbrev sv (ns : List Int) (W by_ : Int) (l : Nat) (m t la : Int) (x10 x11 x12 x13 x14 : Option Vl) : List (Option Vl) :=
  [some (.rol (ns.map Vl.int)), some (.int W), some (.int by_), some (.loc l), some (.loc (l + 1)), some (.int m), some (.int t), some (.int la), some (.loc (l + 2)), some (.loc (l + 3)), x10, x11, x12, x13, x14]
theorem b0_loop (K : Rk R) {ns xs : List Int} {W by_ t la : Int} {b : Nat} {A : AH} (st : Street xs) (hW : lg W ≤ 2000000) (hbA : b ≤ A.length) : ∀ (cs : List Int) (k : Nat) (Hs : List (Nat × Int)) (Ns : List Int) (x10 x11 x12 x13 x14 : Option Vl), (∀ c ∈ cs, lg c ≤ 2000000) → k + cs.length ≤ 100 →
    (∀ q ∈ Hs, M.IsH xs q.1 q.2) → (∀ m ∈ Ns, 0 ≤ m ∧ m < M.many xs) → Hs.length + cs.length ≤ 100 → Ns.length + cs.length ≤ 100 →
    ∃ (Hs' : List (Nat × Int)) (Ns' : List Int) (y10 y11 y12 : Option Vl), forL (.tp [.nm 10, .nm 11]) (c_law_b0 R) [] b (enumL k (cs.map Vl.int)) (sv ns W by_ A.length (M.many xs) t la x10 x11 x12 x13 x14) (A ++ [(.lst, xs.map Vl.int), (.lst, xs.map Vl.int), (.lst, Hs.map pr), (.lst, Ns.map Vl.int)])
      = .nx (sv ns W by_ A.length (M.many xs) t la y10 y11 y12 x13 x14) (A ++ [(.lst, xs.map Vl.int), (.lst, xs.map Vl.int), (.lst, Hs'.map pr), (.lst, Ns'.map Vl.int)]) ∧
      (∀ q ∈ Hs', M.IsH xs q.1 q.2) ∧ (∀ m ∈ Ns', 0 ≤ m ∧ m < M.many xs) ∧ Hs'.length ≤ 100 ∧ Ns'.length ≤ 100
  | [], k, Hs, Ns, x10, x11, x12, x13, x14, _, _, h1, h2, h3, h4 => ⟨Hs, Ns, x10, x11, x12, by simp [enumL, forL], h1, h2, by simpa using h3, by simpa using h4⟩
  | c :: cs, k, Hs, Ns, x10, x11, x12, x13, x14, hc, hk, h1, h2, h3, h4 => by
    have hA : LA (A ++ [(.lst, xs.map Vl.int), (.lst, xs.map Vl.int), (.lst, Hs.map pr), (.lst, Ns.map Vl.int)]) A.length xs := by simp [LA]
    have hm : 0 < M.many xs := by
      have := len_every (k := 0) st.nn
      have h := st.lo
      cases xs with
      | nil => simp at h
      | cons x r =>
        have := st.nn x (by simp)
        have h5 := len_every (k := 0) (xs := r) fun y hy => st.nn y (by simp [hy])
        unfold M.many at h5 ⊢
        simp at h5 ⊢
        omega
    let n := lnum c ((k : Int) + 4) W
    have hn := K.h34 (A ++ [(.lst, xs.map Vl.int), (.lst, xs.map Vl.int), (.lst, Hs.map pr), (.lst, Ns.map Vl.int)]) c ((k : Int) + 4) W (hc c (by simp)) hW (by omega) (by simp at hk; omega)
    obtain ⟨q, hq, eq⟩ := K.h37 (A ++ [(.lst, xs.map Vl.int), (.lst, xs.map Vl.int), (.lst, Hs.map pr), (.lst, Ns.map Vl.int)]) A.length xs n hA st
    have hv0 : 0 ≤ n / 5 % M.many xs := Int.emod_nonneg _ (by omega)
    have hv1 : n / 5 % M.many xs < M.many xs := Int.emod_lt_of_pos _ hm
    obtain ⟨Hs', Ns', y10, y11, y12, e, r⟩ := b0_loop K st hW hbA cs (k + 1) (Hs ++ [q]) (Ns ++ [n / 5 % M.many xs]) (some (.int k)) (some (.int c)) (some (.int n)) x13 x14 (fun z hz => hc z (by simp [hz])) (by simp at hk; omega) (fun z hz => by
      rcases List.mem_append.mp hz with z1 | z1
      · exact h1 z z1
      · simp at z1; subst z1; exact hq) (fun z hz => by
      rcases List.mem_append.mp hz with z1 | z1
      · exact h2 z z1
      · simp at z1; subst z1; exact ⟨hv0, hv1⟩) (by simp at h3 ⊢; omega) (by simp at h4 ⊢; omega)
    refine ⟨Hs', Ns', y10, y11, y12, ?_, r⟩
    have hb : c_law_b0 R ⟨b, sv ns W by_ A.length (M.many xs) t la (some (.int k)) (some (.int c)) x12 x13 x14⟩ (A ++ [(.lst, xs.map Vl.int), (.lst, xs.map Vl.int), (.lst, Hs.map pr), (.lst, Ns.map Vl.int)])
        = .nx (sv ns W by_ A.length (M.many xs) t la (some (.int k)) (some (.int c)) (some (.int n)) x13 x14) (A ++ [(.lst, xs.map Vl.int), (.lst, xs.map Vl.int), (.lst, (Hs ++ [q]).map pr), (.lst, (Ns ++ [n / 5 % M.many xs]).map Vl.int)]) := by
      unfold c_law_b0
      rw [seq_nx (s := sv ns W by_ A.length (M.many xs) t la (some (.int k)) (some (.int c)) (some (.int n)) x13 x14) (A1 := A ++ [(.lst, xs.map Vl.int), (.lst, xs.map Vl.int), (.lst, Hs.map pr), (.lst, Ns.map Vl.int)])]
      · rw [seq_nx (s := sv ns W by_ A.length (M.many xs) t la (some (.int k)) (some (.int c)) (some (.int n)) x13 x14) (A1 := A ++ [(.lst, xs.map Vl.int), (.lst, xs.map Vl.int), (.lst, (Hs ++ [q]).map pr), (.lst, Ns.map Vl.int)])]
        · rw [cDrop_, cM_loc (l := A.length + 3) (xs := Ns.map Vl.int) (A1 := A ++ [(.lst, xs.map Vl.int), (.lst, xs.map Vl.int), (.lst, (Hs ++ [q]).map pr), (.lst, Ns.map Vl.int)]) (by simp) (by rw [at_app]; rfl)]
          simp only [cCons_, cNil_, cF2_, cVar_, cC_, List.getElem?_cons_succ, List.getElem?_cons_zero, bind_ok, fDiv_ (show (0 : Int) < 5 ∧ (5 : Int) < 1073741824 by decide), fMod_ hm]
          rw [fAppend_ (xs := Ns.map Vl.int) (by rw [at_app]; rfl) rfl (by simp at h4 ⊢; omega) (Nat.le_trans hbA (Nat.le_add_right _ _))]
          simp
        · rw [cDrop_, cM_loc (l := A.length + 2) (xs := Hs.map pr) (A1 := A ++ [(.lst, xs.map Vl.int), (.lst, xs.map Vl.int), (.lst, Hs.map pr), (.lst, Ns.map Vl.int)]) (by simp) (by rw [at_app]; rfl)]
          simp only [cCons_, cNil_, cCall_, callF_, cVar_, List.getElem?_cons_succ, List.getElem?_cons_zero, bind_ok, boxs_cons, boxs_nil, box_loc, box_int, eq, back_ok, gc_len]
          rw [fAppend_ (xs := Hs.map pr) (by rw [at_app]; rfl) (by simp) (by simp at h3 ⊢; omega) (Nat.le_trans hbA (Nat.le_add_right _ _))]
          simp
      · rw [put_nm (d := .int n) (A1 := A ++ [(.lst, xs.map Vl.int), (.lst, xs.map Vl.int), (.lst, Hs.map pr), (.lst, Ns.map Vl.int)])]
        · simp
        · simp only [cCons_, cNil_, cCall_, callF_, cF2_, cC_, fAdd_, cVar_, List.getElem?_cons_succ, List.getElem?_cons_zero, bind_ok, boxs_cons, boxs_nil, box_loc, box_int, hn, back_ok, gc_len]
          rfl
    simp only [List.map_cons, enumL, forL, put_t, puts_c, put_n, puts_n, List.set_cons_succ, List.set_cons_zero, hb, seen_n, if_true]
    exact e
theorem b3_loop (K : Rk R) {xs : List Int} {b l m8 m9 : Nat} {A : AH} (st : Street xs) (hA : LA A l xs) {ns : List Int} {W by_ t la : Int} {Ns : List Int} {x4 : Vl} (hN : A[m9]? = some (.lst, Ns.map Vl.int)) : ∀ (cs : List Int) (x10 x11 x12 x13 x14 : Option Vl), (∀ m ∈ cs, 0 ≤ m ∧ m < M.many xs) →
    ∃ y12 y13, forL (.nm 12) (c_law_b3 R) [(m9, Ns.map Vl.int)] b (cs.map Vl.int) [some (.rol (ns.map Vl.int)), some (.int W), some (.int by_), some (.loc l), some x4, some (.int (M.many xs)), some (.int t), some (.int la), some (.loc m8), some (.loc m9), x10, x11, x12, x13, x14] A
      = .nx [some (.rol (ns.map Vl.int)), some (.int W), some (.int by_), some (.loc l), some x4, some (.int (M.many xs)), some (.int t), some (.int la), some (.loc m8), some (.loc m9), x10, x11, y12, y13, x14] A
  | [], x10, x11, x12, x13, x14, _ => ⟨x12, x13, by simp [forL]⟩
  | m :: cs, x10, x11, x12, x13, x14, hm => by
    obtain ⟨g0, g1⟩ := hm m (by simp)
    obtain ⟨s, p, e1, e2, e3⟩ := M.house_ok st.nn g0 g1
    obtain ⟨y12, y13, e⟩ := b3_loop K st hA hN cs x10 x11 (some (.int m)) (some (pr (s, p))) x14 fun z hz => hm z (by simp [hz])
    refine ⟨y12, y13, ?_⟩
    have e7 := K.h7 A l xs m s p hA st g0 g1 e1
    have e6 := K.h6 A l xs s p hA st e2
    have e38 := K.h38 A l xs (s, p) hA e2
    have ebox : box (pr (s, p)) A = (pr (s, p), A) := box_tup (by simp)
    have hb : c_law_b3 R ⟨b, [some (.rol (ns.map Vl.int)), some (.int W), some (.int by_), some (.loc l), some x4, some (.int (M.many xs)), some (.int t), some (.int la), some (.loc m8), some (.loc m9), x10, x11, some (.int m), x13, x14]⟩ A
        = .nx [some (.rol (ns.map Vl.int)), some (.int W), some (.int by_), some (.loc l), some x4, some (.int (M.many xs)), some (.int t), some (.int la), some (.loc m8), some (.loc m9), x10, x11, some (.int m), some (pr (s, p)), x14] A := by
      unfold c_law_b3
      rw [seq_nx (s := [some (.rol (ns.map Vl.int)), some (.int W), some (.int by_), some (.loc l), some x4, some (.int (M.many xs)), some (.int t), some (.int la), some (.loc m8), some (.loc m9), x10, x11, some (.int m), some (pr (s, p)), x14]) (A1 := A) (by simp [cPut, e7, ebox])]
      rw [seq_nx (s := [some (.rol (ns.map Vl.int)), some (.int W), some (.int by_), some (.loc l), some x4, some (.int (M.many xs)), some (.int t), some (.int la), some (.loc m8), some (.loc m9), x10, x11, some (.int m), some (pr (s, p)), x14]) (A1 := A) (by simp [e38, ebox, e6, e3])]
      simp [e7, fEq_pairs]
    simp only [List.map_cons, forL, put_n, List.set_cons_succ, List.set_cons_zero, hb]
    rw [if_pos (seen_one hN)]
    exact e
end G

set_option Elab.async false
set_option linter.all false
set_option maxRecDepth 100000
set_option maxHeartbeats 2000000
set_option autoImplicit false
namespace G
open PySem PySem.Spec PyProof.Rows L2 Ab
variable {R : Nat → Fn}
theorem many_pos {xs : List Int} (st : Street xs) : 0 < M.many xs := by
  have h := st.lo
  cases xs with
  | nil => simp at h
  | cons x r =>
    have := st.nn x (by simp)
    have h5 := len_every (k := 0) (xs := r) fun y hy => st.nn y (by simp [hy])
    unfold M.many at h5 ⊢
    simp at h5 ⊢
    omega
theorem sum63 {ns : List Int} (hb : ∀ z ∈ ns, Builtin.Int.intBits z ≤ 1048576) : lg (ns.take 63).sum ≤ 2000000 := by
  have := lg_sum (n := 1048576) (xs := ns.take 63) fun z hz => lg_bits (hb z (List.mem_of_mem_take hz))
  have h2 : (ns.take 63).length ≤ 63 := by simp; omega
  omega
theorem b4_ok (K : Rk R) (h60 : LawRight (R 60)) {ns : List Int} (hbits : ∀ z ∈ ns, Builtin.Int.intBits z ≤ 1048576) {by_ : Int} (hy0 : 0 ≤ by_) (hy1 : by_ ≤ 10) {b : Nat} {A : AH} (hbA : b ≤ A.length) {x3 x4 x5 x6 x7 x8 x9 x10 x11 x12 x13 x14 : Option Vl} :
    ∃ (y3 y4 y5 y6 y7 y8 y9 y10 y11 y12 y13 y14 : Option Vl) (A' : AH), A.length ≤ A'.length ∧ c_law_b4 R ⟨b, [some (.rol (ns.map Vl.int)), some (.int (ns.take 63).sum), some (.int by_), x3, x4, x5, x6, x7, x8, x9, x10, x11, x12, x13, x14]⟩ A
      = .nx [some (.rol (ns.map Vl.int)), some (.int (ns.take 63).sum), some (.int by_), y3, y4, y5, y6, y7, y8, y9, y10, y11, y12, y13, y14] A' := by
  have hW := sum63 hbits
  generalize (ns.take 63).sum = W at hW
  have st := street_ok ns by_
  have e36 := K.h36 A ns by_ hbits hy0 hy1
  generalize street ns by_ = xs at st e36
  have hmp := many_pos st
  have hlen : ∃ la : Nat, xs.length = la + 1 := ⟨xs.length - 1, by have := st.lo; omega⟩
  obtain ⟨la, hla⟩ := hlen
  have c0 : xs[0]? = some (xs.getD 0 0) := by rw [List.getD_eq_getElem?_getD, List.getElem?_eq_getElem (by omega)]; rfl
  have c1 : xs[la]? = some (xs.getD la 0) := by rw [List.getD_eq_getElem?_getD, List.getElem?_eq_getElem (by omega)]; rfl
  have n0 := st.nn _ (List.mem_of_getElem? c0)
  have n1 := st.nn _ (List.mem_of_getElem? c1)
  have ix0 : atI (xs.map Vl.int) (0 : Int) = some (.int (xs.getD 0 0)) := atI_n (n := 0) (by rw [List.getElem?_map, c0]; rfl)
  have ix1 : atI (xs.map Vl.int) (la : Int) = some (.int (xs.getD la 0)) := atI_n (by rw [List.getElem?_map, c1]; rfl)
  unfold c_law_b4
  let A1 : AH := A ++ [(.lst, xs.map Vl.int)]
  have hA1 : LA A1 A.length xs := by simp [LA, A1]
  rw [seq_nx (s := [some (.rol (ns.map Vl.int)), some (.int W), some (.int by_), some (.loc A.length), x4, x5, x6, x7, x8, x9, x10, x11, x12, x13, x14]) (A1 := A1) (by
    rw [put_nm (d := .new .lst (xs.map Vl.int)) (A1 := A)]
    · rw [box_new (by simp)]; simp [A1]
    · simp [e36])]
  let A2 : AH := A ++ [(.lst, xs.map Vl.int), (.lst, xs.map Vl.int)]
  have hA2 : LA A2 A.length xs := by simp [LA, A2]
  rw [seq_nx (s := [some (.rol (ns.map Vl.int)), some (.int W), some (.int by_), some (.loc A.length), some (.loc (A.length + 1)), some (.int (M.many xs)), x6, x7, x8, x9, x10, x11, x12, x13, x14]) (A1 := A2) (by
    have e : cTup (cCons (cF fList (cCons (cVar 3) cNil)) (cCons (cF2 fAdd (cF fLen (cCons (cVar 3) cNil)) (cF fSum (cCons (cVar 3) cNil))) cNil)) ⟨b, [some (.rol (ns.map Vl.int)), some (.int W), some (.int by_), some (.loc A.length), x4, x5, x6, x7, x8, x9, x10, x11, x12, x13, x14]⟩ A1 = .ok (.tup [.new .lst (xs.map Vl.int), .int (M.many xs)]) A1 := by
      have el : fList b [.loc A.length] A1 = .ok (.new .lst (xs.map Vl.int)) A1 := by simp [fList, seqA, seqL, hA1]
      simp [el, fLen_loc hA1, fSum_loc hA1, M.many]
    have eb : box (.tup [.new .lst (xs.map Vl.int), .int (M.many xs)]) A1 = (.tup [.loc (A.length + 1), .int (M.many xs)], A2) := by
      rw [box]
      simp [box_new, A1, A2]
    rw [put_of (s := [some (.rol (ns.map Vl.int)), some (.int W), some (.int by_), some (.loc A.length), some (.loc (A.length + 1)), some (.int (M.many xs)), x6, x7, x8, x9, x10, x11, x12, x13, x14]) e (by rw [eb]; simp), eb])]
  rw [seq_nx (s := [some (.rol (ns.map Vl.int)), some (.int W), some (.int by_), some (.loc A.length), some (.loc (A.length + 1)), some (.int (M.many xs)), some (.int (M.many xs)), x7, x8, x9, x10, x11, x12, x13, x14]) (A1 := A2) (by simp [cPut, K.h5 A2 A.length xs hA2 st])]
  rw [seq_nx (s := [some (.rol (ns.map Vl.int)), some (.int W), some (.int by_), some (.loc A.length), some (.loc (A.length + 1)), some (.int (M.many xs)), some (.int (M.many xs)), x7, x8, x9, x10, x11, x12, x13, x14]) (A1 := A2) (by simp [K.h35 A2])]
  rw [seq_nx (s := [some (.rol (ns.map Vl.int)), some (.int W), some (.int by_), some (.loc A.length), some (.loc (A.length + 1)), some (.int (M.many xs)), some (.int (M.many xs)), some (.int la), x8, x9, x10, x11, x12, x13, x14]) (A1 := A2) (by simp [cPut, fLen_loc hA2, hla])]
  let Hs : List (Nat × Int) := [(0, 0), (la, 0), (la, xs.getD la 0), (0, xs.getD 0 0)]
  let A3 : AH := A ++ [(.lst, xs.map Vl.int), (.lst, xs.map Vl.int), (.lst, Hs.map pr)]
  rw [seq_nx (s := [some (.rol (ns.map Vl.int)), some (.int W), some (.int by_), some (.loc A.length), some (.loc (A.length + 1)), some (.int (M.many xs)), some (.int (M.many xs)), some (.int la), some (.loc (A.length + 2)), x9, x10, x11, x12, x13, x14]) (A1 := A3) (by
    rw [put_nm (d := .new .lst (Hs.map pr)) (A1 := A2)]
    · rw [box_new (plains_pr _)]; simp [A2, A3]
    · simp [fIx_loc hA2 ix0, fIx_loc hA2 ix1, Hs])]
  let Ns : List Int := [0, M.many xs - 1, M.many xs / 2]
  let A4 : AH := A ++ [(.lst, xs.map Vl.int), (.lst, xs.map Vl.int), (.lst, Hs.map pr), (.lst, Ns.map Vl.int)]
  rw [seq_nx (s := sv ns W by_ A.length (M.many xs) (M.many xs) la x10 x11 x12 x13 x14) (A1 := A4) (by
    rw [put_nm (d := .new .lst (Ns.map Vl.int)) (A1 := A3)]
    · rw [box_new (by simp)]; simp [A3, A4]
    · simp [fDiv_ (show (0 : Int) < 2 ∧ (2 : Int) < 1073741824 by decide), Ns])]
  -- the cells' turn
  have hcs : ∀ c ∈ W :: ns.take 8, lg c ≤ 2000000 := fun c hc => by
    rcases List.mem_cons.mp hc with rfl | hc
    · exact hW
    · exact Nat.le_trans (lg_bits (hbits c (List.mem_of_mem_take hc))) (by decide)
  have h8 : (ns.take 8).length ≤ 8 := by simp; omega
  obtain ⟨Hs', Ns', y10, y11, y12, e0, r1, r2, r3, r4⟩ := b0_loop K (ns := ns) (W := W) (by_ := by_) (t := M.many xs) (la := la) (b := b) (A := A) st hW hbA (W :: ns.take 8) 0 Hs Ns x10 x11 x12 x13 x14 hcs (by simp at h8 ⊢; omega) (fun q hq => by
      simp only [Hs, List.mem_cons, List.not_mem_nil, or_false] at hq
      rcases hq with rfl | rfl | rfl | rfl
      · exact ⟨_, c0, Int.le_refl _, n0⟩
      · exact ⟨_, c1, Int.le_refl _, n1⟩
      · exact ⟨_, c1, n1, Int.le_refl _⟩
      · exact ⟨_, c0, n0, Int.le_refl _⟩) (fun m hm => by
      simp only [Ns, List.mem_cons, List.not_mem_nil, or_false] at hm
      rcases hm with rfl | rfl | rfl <;> omega) (by simp [Hs] at h8 ⊢; omega) (by simp [Ns] at h8 ⊢; omega)
  have en : cEn (cF2 fAdd (cLst (cCons (cVar 1) cNil)) (cSl (cVar 0) none (some (cC (.int 8))))) ⟨b, sv ns W by_ A.length (M.many xs) (M.many xs) la x10 x11 x12 x13 x14⟩ A4 = .ok (enumL 0 ((W :: ns.take 8).map Vl.int), []) A4 := by
    refine cEn_new ?_ (by simp)
    have e1 : cSl (cVar 0) none (some (cC (.int 8))) ⟨b, sv ns W by_ A.length (M.many xs) (M.many xs) la x10 x11 x12 x13 x14⟩ A4 = .ok (.new .lst ((ns.map Vl.int).take 8)) A4 := cSl_rol (A1 := A4) (A2 := A4) (s := 8) (by simp) (by simp) (by decide)
    have e2 : fAdd b [.new .lst [.int W], .new .lst ((ns.map Vl.int).take 8)] A4 = .ok (.new .lst ((W :: ns.take 8).map Vl.int)) A4 := by
      have : [Vl.int W].length + ((ns.map Vl.int).take 8).length ≤ 100000 := by simp; omega
      simp only [fAdd, mutL, this, if_true]
      simp [List.map_take]
    simp only [cF2_, cLst_, cCons_, cNil_, cVar_, List.getElem?_cons_succ, List.getElem?_cons_zero, bind_ok, List.length_cons, List.length_nil]
    rw [if_pos (by decide)]
    simp only [bind_ok]
    rw [e1]
    simp only [bind_ok, e2]
  rw [seq_nx ((for_of en).trans e0)]
  -- few houses: all of them
  let A5 : AH := A ++ [(.lst, xs.map Vl.int), (.lst, xs.map Vl.int), (.lst, Hs'.map pr), (.lst, Ns'.map Vl.int)]
  have hA5 : LA A5 A.length xs := by simp [LA, A5]
  have hmid : ∃ (y8 : Nat) (B6 : AH) (Hs6 : List (Nat × Int)) (y14 : Option Vl), (A5 ++ B6)[y8]? = some (.lst, Hs6.map pr) ∧ (∀ q ∈ Hs6, M.IsH xs q.1 q.2) ∧ Hs6.length ≤ 100000 ∧
      cIf (cTst (cF2 fLt (cVar 5) (cC (.int 30)))) (cSeq (cPut (.nm 8) (cCall (R 39) (cCons (cVar 3) cNil)))
        (cIf (cTst (cF2 (fEqD true) (cF fSorted (cCons (cLc (cIt (cVar 8)) (.nm 14) cYes (c_law_e1 R) [14]) cNil)) (cRgL1 (cVar 5)))) (cRet (cC (.bl false))) cNx)) cNx ⟨b, sv ns W by_ A.length (M.many xs) (M.many xs) la y10 y11 y12 x13 x14⟩ A5
      = .nx [some (.rol (ns.map Vl.int)), some (.int W), some (.int by_), some (.loc A.length), some (.loc (A.length + 1)), some (.int (M.many xs)), some (.int (M.many xs)), some (.int la), some (.loc y8), some (.loc (A.length + 3)), y10, y11, y12, x13, y14] (A5 ++ B6) := by
    by_cases h30 : M.many xs < 30
    · have e39 := K.h39 A5 A.length xs hA5 st.nn (by omega)
      let A6 : AH := A5 ++ [(.lst, (every 0 xs).map pr)]
      have hA6 : LA A6 A.length xs := LA.app hA5
      have hE : A6[A5.length]? = some (.lst, (every 0 xs).map pr) := by simp [A6]
      have hle := len_every (k := 0) st.nn
      refine ⟨A5.length, [(.lst, (every 0 xs).map pr)], every 0 xs, x14, hE, fun q hq => every_isH hq, by omega, ?_⟩
      simp only [cIf_, cTst_, cF2_, cVar_, List.getElem?_cons_succ, List.getElem?_cons_zero, bind_ok, cC_, fLt_, decide_eq_true h30, asB_]
      rw [seq_nx (s := [some (.rol (ns.map Vl.int)), some (.int W), some (.int by_), some (.loc A.length), some (.loc (A.length + 1)), some (.int (M.many xs)), some (.int (M.many xs)), some (.int la), some (.loc A5.length), some (.loc (A.length + 3)), y10, y11, y12, x13, x14]) (A1 := A6) (by
        rw [put_nm (d := .new .lst ((every 0 xs).map pr)) (A1 := A5)]
        · rw [box_new (plains_pr _)]; simp [A6]
        · simp [e39])]
      have e1 : cLc (cIt (cVar 8)) (.nm 14) cYes (c_law_e1 R) [14] ⟨b, [some (.rol (ns.map Vl.int)), some (.int W), some (.int by_), some (.loc A.length), some (.loc (A.length + 1)), some (.int (M.many xs)), some (.int (M.many xs)), some (.int la), some (.loc A5.length), some (.loc (A.length + 3)), y10, y11, y12, x13, x14]⟩ A6 = .ok (.new .lst ((every 0 xs).map fun q => Vl.int (M.numAt xs q.1 q.2))) A6 := by
        refine cLc_map (phi := pr) (w := [(A5.length, (every 0 xs).map pr)]) (cIt_loc (by simp) hE) (by omega) (seen_one hE) fun q hq => ⟨_, put_n, ?_⟩
        simp only [wipeS, List.set_cons_succ, List.set_cons_zero]
        have ebox : box (pr q) A6 = (pr q, A6) := box_tup (by simp)
        simp [c_law_e1, ebox, K.h6 A6 A.length xs q.1 q.2 hA6 st (every_isH hq)]
      have es : fSorted b [.new .lst ((every 0 xs).map fun q => Vl.int (M.numAt xs q.1 q.2))] A6 = .ok (.new .lst (((List.range (M.many xs).toNat).map fun i : Nat => (i : Int)).map Vl.int)) A6 := by
        simp only [fSorted, fInts, seqL, toInts_mapf, sort_every st.nn]
      have er : fRgL b [.int 0, .int (M.many xs)] A6 = .ok (.new .lst (((List.range (M.many xs).toNat).map fun i : Nat => (i : Int)).map Vl.int)) A6 := by
        have hc : (0 : Int) ≤ 0 ∧ M.many xs ≤ 100000 ∧ (0 : Int) ≤ 100000 ∧ -100000 ≤ M.many xs := by omega
        simp only [fRgL, hc, and_self, if_true]
        congr 2
        unfold rgL
        simp
      simp only [cIf_, cTst_, cF2_, cF_, cCons_, cNil_]
      rw [e1]
      simp only [bind_ok, es, cRgL1, cVar_, List.getElem?_cons_succ, List.getElem?_cons_zero, er]
      rw [fEq_ints (neg := true) toD_new toD_new]
      simp [A6]
    · refine ⟨A.length + 2, [], Hs', x14, by simp [A5], r1, by omega, ?_⟩
      simp [h30, A5]
  obtain ⟨y8, B6, Hs6, y14, f1, f2, f3, f4⟩ := hmid
  rw [seq_nx f4]
  -- all right
  let A7 : AH := A5 ++ B6
  have hA7 : LA A7 A.length xs := LA.app hA5
  have e2 : cLc (cIt (cVar 8)) (.nm 14) cYes (c_law_e2 R) [14] ⟨b, [some (.rol (ns.map Vl.int)), some (.int W), some (.int by_), some (.loc A.length), some (.loc (A.length + 1)), some (.int (M.many xs)), some (.int (M.many xs)), some (.int la), some (.loc y8), some (.loc (A.length + 3)), y10, y11, y12, x13, y14]⟩ A7 = .ok (.new .lst (Hs6.map fun q => Vl.bl true)) A7 := by
    refine cLc_map (phi := pr) (w := [(y8, Hs6.map pr)]) (cIt_loc (by simp) f1) f3 (seen_one f1) fun q hq => ⟨_, put_n, ?_⟩
    simp only [wipeS, List.set_cons_succ, List.set_cons_zero]
    have ebox : box (pr q) A7 = (pr q, A7) := box_tup (by simp)
    simp [c_law_e2, ebox, h60 A7 A.length xs q hA7 st (f2 q hq)]
  rw [seq_nx (s := [some (.rol (ns.map Vl.int)), some (.int W), some (.int by_), some (.loc A.length), some (.loc (A.length + 1)), some (.int (M.many xs)), some (.int (M.many xs)), some (.int la), some (.loc y8), some (.loc (A.length + 3)), y10, y11, y12, x13, y14]) (A1 := A7) (by
    have hall : (Hs6.all fun _ => true) = true := List.all_eq_true.mpr fun _ _ => rfl
    simp only [cIf_, cNot_, cTst_, cF_, cCons_, cNil_]
    rw [e2]
    simp [hall])]
  have hN7 : A7[A.length + 3]? = some (.lst, Ns'.map Vl.int) := by
    show (A5 ++ B6)[A.length + 3]? = _
    rw [List.getElem?_append_left (by simp [A5])]
    simp [A5]
  obtain ⟨y12', y13', e3⟩ := b3_loop K (b := b) (l := A.length) (m8 := y8) (m9 := A.length + 3) (A := A7) st hA7 (ns := ns) (W := W) (by_ := by_) (t := M.many xs) (la := la) (Ns := Ns') (x4 := .loc (A.length + 1)) hN7 Ns' y10 y11 y12 x13 y14 r2
  rw [seq_nx ((for_of (cIt_loc (A1 := A7) (by simp) hN7)).trans e3)]
  have hK7 : LA A7 (A.length + 1) xs := LA.app (by simp [LA, A5])
  refine ⟨some (.loc A.length), some (.loc (A.length + 1)), some (.int (M.many xs)), some (.int (M.many xs)), some (.int la), some (.loc y8), some (.loc (A.length + 3)), y10, y11, y12', y13', y14, A7, by simp [A7, A5], ?_⟩
  simp only [cIf_, cTst_, cF2_, cVar_, List.getElem?_cons_succ, List.getElem?_cons_zero, bind_ok]
  rw [fEq_ints (neg := true) (toD_loc hA7) (toD_loc hK7)]
  simp
theorem law_ok (K : Rk R) (h60 : LawRight (R 60)) (ns : List Int) (hbits : ∀ z ∈ ns, Builtin.Int.intBits z ≤ 1048576) : ∃ A, mkFn 15 (c_law R) [.rol (ns.map Vl.int)] [] = .ok (.bl true) A := by
  simp only [mkFn, c_law, List.map_cons, List.map_nil, List.length_cons, List.length_nil, Nat.zero_add, Nat.reduceAdd, Nat.reduceSub, List.replicate, List.cons_append, List.nil_append]
  rw [seq_nx (s := [some (.rol (ns.map Vl.int)), some (.int (ns.take 63).sum), none, none, none, none, none, none, none, none, none, none, none, none, none]) (A1 := []) (by
    rw [put_nm (d := .int (ns.take 63).sum) (A1 := [])]
    · simp
    · have e1 : cSl (cVar 0) none (some (cC (.int 63))) ⟨0, [some (.rol (ns.map Vl.int)), none, none, none, none, none, none, none, none, none, none, none, none, none, none]⟩ [] = .ok (.new .lst ((ns.map Vl.int).take 63)) [] := cSl_rol (A1 := []) (A2 := []) (s := 63) (by simp) (by simp) (by decide)
      simp only [cF_, cCons_, cNil_]
      rw [e1, ← List.map_take]
      simp only [bind_ok, fSum_new])]
  obtain ⟨a3, a4, a5, a6, a7, a8, a9, a10, a11, a12, a13, a14, A1, g1, f1⟩ := b4_ok K h60 hbits (by_ := 0) (by decide) (by decide) (b := 0) (A := []) (Nat.le_refl _) (x3 := none) (x4 := none) (x5 := none) (x6 := none) (x7 := none) (x8 := none) (x9 := none) (x10 := none) (x11 := none) (x12 := none) (x13 := none) (x14 := none)
  obtain ⟨d3, d4, d5, d6, d7, d8, d9, d10, d11, d12, d13, d14, A2, g2, f2⟩ := b4_ok K h60 hbits (by_ := 1) (by decide) (by decide) (b := 0) (A := A1) (Nat.zero_le _) (x3 := a3) (x4 := a4) (x5 := a5) (x6 := a6) (x7 := a7) (x8 := a8) (x9 := a9) (x10 := a10) (x11 := a11) (x12 := a12) (x13 := a13) (x14 := a14)
  have ef := for_of (t := .nm 2) (body := c_law_b4 R) (cRg1_n (c := cC (.int 2)) (ρ := ⟨0, [some (.rol (ns.map Vl.int)), some (.int (ns.take 63).sum), none, none, none, none, none, none, none, none, none, none, none, none, none]⟩) (A := []) (A1 := []) (n := 2) rfl (by decide))
  rw [seq_nx (s := [some (.rol (ns.map Vl.int)), some (.int (ns.take 63).sum), some (.int 1), d3, d4, d5, d6, d7, d8, d9, d10, d11, d12, d13, d14]) (A1 := A2) (by
    rw [ef]
    have er : (List.range 2).map (fun i : Nat => Vl.int (i : Int)) = [.int 0, .int 1] := rfl
    rw [er]
    simp only [forL, put_n, List.set_cons_succ, List.set_cons_zero, f1, f2, seen_n, if_true])]
  -- the last row
  have s0 : Street [0] := ⟨by decide, by decide, by decide⟩
  have hB : LA (A2 ++ [(.lst, [.int 0])]) A2.length [0] := by simp [LA]
  have eb : box (.new .lst [.int 0]) A2 = (.loc A2.length, A2 ++ [(.lst, [.int 0])]) := box_new rfl
  have h5 := K.h5 _ _ _ hB s0
  have h6 := K.h6 _ _ _ 0 0 hB s0 ⟨0, rfl, Int.le_refl _, Int.le_refl _⟩
  have h7 := K.h7 _ _ _ 0 0 0 hB s0 (by decide) (by decide) (by decide)
  have m0 : M.many [0] = 1 := by decide
  have m1 : M.numAt [0] 0 0 = 0 := by decide
  rw [m0] at h5
  rw [m1] at h6
  have t00 : ∀ A : AH, box (.tup [.int 0, .int 0]) A = (.tup [.int 0, .int 0], A) := fun A => box_tup (by simp)
  have g0 : ∀ i : Int, gc A2.length (.int i) (A2 ++ [(.lst, [.int 0])]) = .ok (.int i) A2 := fun i => gc_app rfl
  have g3 : gc A2.length (.tup [.int 0, .int 0]) (A2 ++ [(.lst, [.int 0])]) = .ok (.tup [.int 0, .int 0]) A2 := gc_app (by simp)
  simp only [Int.natCast_zero, Int.cast_ofNat_Int] at h6 h7
  refine ⟨[], ?_⟩
  simp [eb, h5, h6, h7, t00, g0, g3, fEq_pairs]
  rw [gc_pl rfl]; simp
theorem law_true (ns : List Int) (hl : ns.length ≤ 63) (hb : ∀ z ∈ ns, Builtin.Int.intBits z ≤ 1048576) : ∃ A, run 6 61 [.rol (ns.map Vl.int)] [] = .ok (.bl true) A := by
  have q0 : ∀ k, IsWhole (run (k + 1) 0) := fun k => is_whole_ok
  have q1 : ∀ k, CkStreet (run (k + 2) 1) := fun k => check_street_ok (q0 k)
  have q2 : ∀ k, ManyOf (run (k + 1) 2) := fun k => many_of_ok
  have q3 : ∀ k, AheadOf (run (k + 1) 3) := fun k => ahead_of_ok
  have q4 : ∀ k, NumberAt (run (k + 2) 4) := fun k => number_at_ok (q3 k) (q2 k)
  have q5 : ∀ k, HousesOf (run (k + 3) 5) := fun k => houses_of_ok (q1 k) (q2 (k + 1))
  have q6 : ∀ k, NumberOf (run (k + 3) 6) := fun k => number_of_ok (q0 (k + 1)) (q1 k) (q4 k)
  have q7 : ∀ k, HouseOf (run (k + 3) 7) := fun k => house_of_ok (q0 (k + 1)) (q1 k) (q2 (k + 1)) (q3 (k + 1))
  have q34 : ∀ k, LawNumber (run (k + 1) 34) := fun k => law_number_ok
  have q35 : ∀ k, LawWhole (run (k + 1) 35) := fun k => law_whole_ok
  have q36 : ∀ k, LawStreet (run (k + 2) 36) := fun k => law_street_ok (q34 k)
  have q37 : ∀ k, LawSomeHouse (run (k + 1) 37) := fun k => law_some_house_ok
  have q38 : ∀ k, LawIsHouse (run (k + 2) 38) := fun k => law_is_house_ok (q35 k)
  have q39 : ∀ k, LawEvery (run (k + 1) 39) := fun k => law_every_ok
  have q60 : ∀ k, LawRight (run (k + 4) 60) := fun k => law_right_ok (q6 k) (q7 k) (q35 (k + 2)) (q38 (k + 1))
  exact law_ok (R := run 5) ⟨q5 2, q6 2, q7 2, q34 4, q35 4, q36 3, q37 4, q38 3, q39 4⟩ (q60 1) ns hb
end G

set_option maxHeartbeats 4000000
set_option maxRecDepth 100000
namespace G
open PySem PySem.Spec PyProof.Rows L2 Ab
theorem all_mk {l : PySem.W.OpenLaw} {w : World} {K : PySem.W.Frag} {h : Heap} {mg : Str → Option Value} {fa : Addr} (X : K.In h) (G : h.Ns mainGlobals mg) (hfa : mg "law" = some (.ref fa))
    {f0 : Addr} {od0 an0 : Option Addr} {sl0 : Array (Option Value)} {oc0 kV0 dc0 pm0 cd0 ct0 : Value}
    (a0 : PySem.W.nsIn K mainGlobals "is_whole" = some (some (.ref f0))) (l0 : K.lookup f0 = some ⟨oc0, od0, .func (PySem.W.fnOf "is_whole" "is_whole" (defArgs s0) (defBody s0) (defScope s0) .none kV0 dc0 pm0 an0 cd0 ct0), sl0⟩) (c0 : PySem.W.codeIn K cd0 "is_whole" = true) (k0 : PySem.W.keepIn K (.ref f0) = true)
    {f1 : Addr} {od1 an1 : Option Addr} {sl1 : Array (Option Value)} {oc1 kV1 dc1 pm1 cd1 ct1 : Value}
    (a1 : PySem.W.nsIn K mainGlobals "check_street" = some (some (.ref f1))) (l1 : K.lookup f1 = some ⟨oc1, od1, .func (PySem.W.fnOf "check_street" "check_street" (defArgs s1) (defBody s1) (defScope s1) .none kV1 dc1 pm1 an1 cd1 ct1), sl1⟩) (c1 : PySem.W.codeIn K cd1 "check_street" = true) (k1 : PySem.W.keepIn K (.ref f1) = true)
    {f2 : Addr} {od2 an2 : Option Addr} {sl2 : Array (Option Value)} {oc2 kV2 dc2 pm2 cd2 ct2 : Value}
    (a2 : PySem.W.nsIn K mainGlobals "many_of" = some (some (.ref f2))) (l2 : K.lookup f2 = some ⟨oc2, od2, .func (PySem.W.fnOf "many_of" "many_of" (defArgs s2) (defBody s2) (defScope s2) .none kV2 dc2 pm2 an2 cd2 ct2), sl2⟩) (c2 : PySem.W.codeIn K cd2 "many_of" = true) (k2 : PySem.W.keepIn K (.ref f2) = true)
    {f3 : Addr} {od3 an3 : Option Addr} {sl3 : Array (Option Value)} {oc3 kV3 dc3 pm3 cd3 ct3 : Value}
    (a3 : PySem.W.nsIn K mainGlobals "ahead_of" = some (some (.ref f3))) (l3 : K.lookup f3 = some ⟨oc3, od3, .func (PySem.W.fnOf "ahead_of" "ahead_of" (defArgs s3) (defBody s3) (defScope s3) .none kV3 dc3 pm3 an3 cd3 ct3), sl3⟩) (c3 : PySem.W.codeIn K cd3 "ahead_of" = true) (k3 : PySem.W.keepIn K (.ref f3) = true)
    {f4 : Addr} {od4 an4 : Option Addr} {sl4 : Array (Option Value)} {oc4 kV4 dc4 pm4 cd4 ct4 : Value}
    (a4 : PySem.W.nsIn K mainGlobals "number_at" = some (some (.ref f4))) (l4 : K.lookup f4 = some ⟨oc4, od4, .func (PySem.W.fnOf "number_at" "number_at" (defArgs s4) (defBody s4) (defScope s4) .none kV4 dc4 pm4 an4 cd4 ct4), sl4⟩) (c4 : PySem.W.codeIn K cd4 "number_at" = true) (k4 : PySem.W.keepIn K (.ref f4) = true)
    {f5 : Addr} {od5 an5 : Option Addr} {sl5 : Array (Option Value)} {oc5 kV5 dc5 pm5 cd5 ct5 : Value}
    (a5 : PySem.W.nsIn K mainGlobals "houses_of" = some (some (.ref f5))) (l5 : K.lookup f5 = some ⟨oc5, od5, .func (PySem.W.fnOf "houses_of" "houses_of" (defArgs s5) (defBody s5) (defScope s5) .none kV5 dc5 pm5 an5 cd5 ct5), sl5⟩) (c5 : PySem.W.codeIn K cd5 "houses_of" = true) (k5 : PySem.W.keepIn K (.ref f5) = true)
    {f6 : Addr} {od6 an6 : Option Addr} {sl6 : Array (Option Value)} {oc6 kV6 dc6 pm6 cd6 ct6 : Value}
    (a6 : PySem.W.nsIn K mainGlobals "number_of" = some (some (.ref f6))) (l6 : K.lookup f6 = some ⟨oc6, od6, .func (PySem.W.fnOf "number_of" "number_of" (defArgs s6) (defBody s6) (defScope s6) .none kV6 dc6 pm6 an6 cd6 ct6), sl6⟩) (c6 : PySem.W.codeIn K cd6 "number_of" = true) (k6 : PySem.W.keepIn K (.ref f6) = true)
    {f7 : Addr} {od7 an7 : Option Addr} {sl7 : Array (Option Value)} {oc7 kV7 dc7 pm7 cd7 ct7 : Value}
    (a7 : PySem.W.nsIn K mainGlobals "house_of" = some (some (.ref f7))) (l7 : K.lookup f7 = some ⟨oc7, od7, .func (PySem.W.fnOf "house_of" "house_of" (defArgs s7) (defBody s7) (defScope s7) .none kV7 dc7 pm7 an7 cd7 ct7), sl7⟩) (c7 : PySem.W.codeIn K cd7 "house_of" = true) (k7 : PySem.W.keepIn K (.ref f7) = true)
    {f34 : Addr} {od34 an34 : Option Addr} {sl34 : Array (Option Value)} {oc34 kV34 dc34 pm34 cd34 ct34 : Value}
    (a34 : PySem.W.nsIn K mainGlobals "_law_number" = some (some (.ref f34))) (l34 : K.lookup f34 = some ⟨oc34, od34, .func (PySem.W.fnOf "_law_number" "_law_number" (defArgs s34) (defBody s34) (defScope s34) .none kV34 dc34 pm34 an34 cd34 ct34), sl34⟩) (c34 : PySem.W.codeIn K cd34 "_law_number" = true) (k34 : PySem.W.keepIn K (.ref f34) = true)
    {f35 : Addr} {od35 an35 : Option Addr} {sl35 : Array (Option Value)} {oc35 kV35 dc35 pm35 cd35 ct35 : Value}
    (a35 : PySem.W.nsIn K mainGlobals "_law_whole" = some (some (.ref f35))) (l35 : K.lookup f35 = some ⟨oc35, od35, .func (PySem.W.fnOf "_law_whole" "_law_whole" (defArgs s35) (defBody s35) (defScope s35) .none kV35 dc35 pm35 an35 cd35 ct35), sl35⟩) (c35 : PySem.W.codeIn K cd35 "_law_whole" = true) (k35 : PySem.W.keepIn K (.ref f35) = true)
    {f36 : Addr} {od36 an36 : Option Addr} {sl36 : Array (Option Value)} {oc36 kV36 dc36 pm36 cd36 ct36 : Value}
    (a36 : PySem.W.nsIn K mainGlobals "_law_street" = some (some (.ref f36))) (l36 : K.lookup f36 = some ⟨oc36, od36, .func (PySem.W.fnOf "_law_street" "_law_street" (defArgs s36) (defBody s36) (defScope s36) .none kV36 dc36 pm36 an36 cd36 ct36), sl36⟩) (c36 : PySem.W.codeIn K cd36 "_law_street" = true) (k36 : PySem.W.keepIn K (.ref f36) = true)
    {f37 : Addr} {od37 an37 : Option Addr} {sl37 : Array (Option Value)} {oc37 kV37 dc37 pm37 cd37 ct37 : Value}
    (a37 : PySem.W.nsIn K mainGlobals "_law_some_house" = some (some (.ref f37))) (l37 : K.lookup f37 = some ⟨oc37, od37, .func (PySem.W.fnOf "_law_some_house" "_law_some_house" (defArgs s37) (defBody s37) (defScope s37) .none kV37 dc37 pm37 an37 cd37 ct37), sl37⟩) (c37 : PySem.W.codeIn K cd37 "_law_some_house" = true) (k37 : PySem.W.keepIn K (.ref f37) = true)
    {f38 : Addr} {od38 an38 : Option Addr} {sl38 : Array (Option Value)} {oc38 kV38 dc38 pm38 cd38 ct38 : Value}
    (a38 : PySem.W.nsIn K mainGlobals "_law_is_house" = some (some (.ref f38))) (l38 : K.lookup f38 = some ⟨oc38, od38, .func (PySem.W.fnOf "_law_is_house" "_law_is_house" (defArgs s38) (defBody s38) (defScope s38) .none kV38 dc38 pm38 an38 cd38 ct38), sl38⟩) (c38 : PySem.W.codeIn K cd38 "_law_is_house" = true) (k38 : PySem.W.keepIn K (.ref f38) = true)
    {f39 : Addr} {od39 an39 : Option Addr} {sl39 : Array (Option Value)} {oc39 kV39 dc39 pm39 cd39 ct39 : Value}
    (a39 : PySem.W.nsIn K mainGlobals "_law_every" = some (some (.ref f39))) (l39 : K.lookup f39 = some ⟨oc39, od39, .func (PySem.W.fnOf "_law_every" "_law_every" (defArgs s39) (defBody s39) (defScope s39) .none kV39 dc39 pm39 an39 cd39 ct39), sl39⟩) (c39 : PySem.W.codeIn K cd39 "_law_every" = true) (k39 : PySem.W.keepIn K (.ref f39) = true)
    {f60 : Addr} {od60 an60 : Option Addr} {sl60 : Array (Option Value)} {oc60 kV60 dc60 pm60 cd60 ct60 : Value}
    (a60 : PySem.W.nsIn K mainGlobals "_law_right" = some (some (.ref f60))) (l60 : K.lookup f60 = some ⟨oc60, od60, .func (PySem.W.fnOf "_law_right" "_law_right" (defArgs s60) (defBody s60) (defScope s60) .none kV60 dc60 pm60 an60 cd60 ct60), sl60⟩) (c60 : PySem.W.codeIn K cd60 "_law_right" = true) (k60 : PySem.W.keepIn K (.ref f60) = true)
    {f61 : Addr} {od61 an61 : Option Addr} {sl61 : Array (Option Value)} {oc61 kV61 dc61 pm61 cd61 ct61 : Value}
    (a61 : PySem.W.nsIn K mainGlobals "law" = some (some (.ref f61))) (l61 : K.lookup f61 = some ⟨oc61, od61, .func (PySem.W.fnOf "law" "law" (defArgs s61) (defBody s61) (defScope s61) .none kV61 dc61 pm61 an61 cd61 ct61), sl61⟩) (c61 : PySem.W.codeIn K cd61 "law" = true) (k61 : PySem.W.keepIn K (.ref f61) = true)
    (z_all : PySem.W.nsIn K mainGlobals "all" = some none)
    (z_bool : PySem.W.nsIn K mainGlobals "bool" = some none)
    (z_enumerate : PySem.W.nsIn K mainGlobals "enumerate" = some none)
    (z_int : PySem.W.nsIn K mainGlobals "int" = some none)
    (z_isinstance : PySem.W.nsIn K mainGlobals "isinstance" = some none)
    (z_len : PySem.W.nsIn K mainGlobals "len" = some none)
    (z_list : PySem.W.nsIn K mainGlobals "list" = some none)
    (z_max : PySem.W.nsIn K mainGlobals "max" = some none)
    (z_range : PySem.W.nsIn K mainGlobals "range" = some none)
    (z_sorted : PySem.W.nsIn K mainGlobals "sorted" = some none)
    (z_sum : PySem.W.nsIn K mainGlobals "sum" = some none)
    (z_tuple : PySem.W.nsIn K mainGlobals "tuple" = some none)
    {t_MOST : Tok} (m_MOST : PySem.W.nsIn K mainGlobals "MOST" = some (some (.int 60 t_MOST)))
    : ∃ fd : FuncData, (∀ (s : Shared) (v : Value), BindsTo s fd ⟨[v], []⟩ [("_law_script", v)]) ∧ ∀ base : Heap, K.In base → base.Ns mainGlobals mg → FnOk l.prog w K mg base CX0 6 fa fd ["_law_script"] (spF0 (TT K) (run 6 61) 1) := by
  have e := hfa.symm.trans (PySem.W.mg_of X G a61)
  cases e
  have F0 := fun_mk (st := s0) l0 c0 k0
  have b0 := F0.binds (ps := p0) fun _ _ _ _ _ _ us hl => match us, hl with | [_, _], _ => rfl
  have F1 := fun_mk (st := s1) l1 c1 k1
  have b1 := F1.binds (ps := p1) fun _ _ _ _ _ _ us hl => match us, hl with | [_], _ => rfl
  have F2 := fun_mk (st := s2) l2 c2 k2
  have b2 := F2.binds (ps := p2) fun _ _ _ _ _ _ us hl => match us, hl with | [_], _ => rfl
  have F3 := fun_mk (st := s3) l3 c3 k3
  have b3 := F3.binds (ps := p3) fun _ _ _ _ _ _ us hl => match us, hl with | [_, _], _ => rfl
  have F4 := fun_mk (st := s4) l4 c4 k4
  have b4 := F4.binds (ps := p4) fun _ _ _ _ _ _ us hl => match us, hl with | [_, _, _], _ => rfl
  have F5 := fun_mk (st := s5) l5 c5 k5
  have b5 := F5.binds (ps := p5) fun _ _ _ _ _ _ us hl => match us, hl with | [_], _ => rfl
  have F6 := fun_mk (st := s6) l6 c6 k6
  have b6 := F6.binds (ps := p6) fun _ _ _ _ _ _ us hl => match us, hl with | [_, _], _ => rfl
  have F7 := fun_mk (st := s7) l7 c7 k7
  have b7 := F7.binds (ps := p7) fun _ _ _ _ _ _ us hl => match us, hl with | [_, _], _ => rfl
  have F34 := fun_mk (st := s34) l34 c34 k34
  have b34 := F34.binds (ps := p34) fun _ _ _ _ _ _ us hl => match us, hl with | [_, _, _], _ => rfl
  have F35 := fun_mk (st := s35) l35 c35 k35
  have b35 := F35.binds (ps := p35) fun _ _ _ _ _ _ us hl => match us, hl with | [_], _ => rfl
  have F36 := fun_mk (st := s36) l36 c36 k36
  have b36 := F36.binds (ps := p36) fun _ _ _ _ _ _ us hl => match us, hl with | [_, _], _ => rfl
  have F37 := fun_mk (st := s37) l37 c37 k37
  have b37 := F37.binds (ps := p37) fun _ _ _ _ _ _ us hl => match us, hl with | [_, _], _ => rfl
  have F38 := fun_mk (st := s38) l38 c38 k38
  have b38 := F38.binds (ps := p38) fun _ _ _ _ _ _ us hl => match us, hl with | [_, _], _ => rfl
  have F39 := fun_mk (st := s39) l39 c39 k39
  have b39 := F39.binds (ps := p39) fun _ _ _ _ _ _ us hl => match us, hl with | [_], _ => rfl
  have F60 := fun_mk (st := s60) l60 c60 k60
  have b60 := F60.binds (ps := p60) fun _ _ _ _ _ _ us hl => match us, hl with | [_, _, _], _ => rfl
  have F61 := fun_mk (st := s61) l61 c61 k61
  have b61 := F61.binds (ps := p61) fun _ _ _ _ _ _ us hl => match us, hl with | [_], _ => rfl
  let d0 : FuncData := (PySem.W.fnOf "is_whole" "is_whole" (defArgs s0) (defBody s0) (defScope s0) .none kV0 dc0 pm0 an0 cd0 ct0)
  let fs : Nat → Addr := fun i => ([f0, f1, f2, f3, f4, f5, f6, f7, 0, 0, 0, 0, 0, 0, 0, 0, 0, 0, 0, 0, 0, 0, 0, 0, 0, 0, 0, 0, 0, 0, 0, 0, 0, 0, f34, f35, f36, f37, f38, f39, 0, 0, 0, 0, 0, 0, 0, 0, 0, 0, 0, 0, 0, 0, 0, 0, 0, 0, 0, 0, f60, fa] : List Addr).getD i 0
  let fd : Nat → FuncData := fun i => ([(PySem.W.fnOf "is_whole" "is_whole" (defArgs s0) (defBody s0) (defScope s0) .none kV0 dc0 pm0 an0 cd0 ct0), (PySem.W.fnOf "check_street" "check_street" (defArgs s1) (defBody s1) (defScope s1) .none kV1 dc1 pm1 an1 cd1 ct1), (PySem.W.fnOf "many_of" "many_of" (defArgs s2) (defBody s2) (defScope s2) .none kV2 dc2 pm2 an2 cd2 ct2), (PySem.W.fnOf "ahead_of" "ahead_of" (defArgs s3) (defBody s3) (defScope s3) .none kV3 dc3 pm3 an3 cd3 ct3), (PySem.W.fnOf "number_at" "number_at" (defArgs s4) (defBody s4) (defScope s4) .none kV4 dc4 pm4 an4 cd4 ct4), (PySem.W.fnOf "houses_of" "houses_of" (defArgs s5) (defBody s5) (defScope s5) .none kV5 dc5 pm5 an5 cd5 ct5), (PySem.W.fnOf "number_of" "number_of" (defArgs s6) (defBody s6) (defScope s6) .none kV6 dc6 pm6 an6 cd6 ct6), (PySem.W.fnOf "house_of" "house_of" (defArgs s7) (defBody s7) (defScope s7) .none kV7 dc7 pm7 an7 cd7 ct7), d0, d0, d0, d0, d0, d0, d0, d0, d0, d0, d0, d0, d0, d0, d0, d0, d0, d0, d0, d0, d0, d0, d0, d0, d0, d0, (PySem.W.fnOf "_law_number" "_law_number" (defArgs s34) (defBody s34) (defScope s34) .none kV34 dc34 pm34 an34 cd34 ct34), (PySem.W.fnOf "_law_whole" "_law_whole" (defArgs s35) (defBody s35) (defScope s35) .none kV35 dc35 pm35 an35 cd35 ct35), (PySem.W.fnOf "_law_street" "_law_street" (defArgs s36) (defBody s36) (defScope s36) .none kV36 dc36 pm36 an36 cd36 ct36), (PySem.W.fnOf "_law_some_house" "_law_some_house" (defArgs s37) (defBody s37) (defScope s37) .none kV37 dc37 pm37 an37 cd37 ct37), (PySem.W.fnOf "_law_is_house" "_law_is_house" (defArgs s38) (defBody s38) (defScope s38) .none kV38 dc38 pm38 an38 cd38 ct38), (PySem.W.fnOf "_law_every" "_law_every" (defArgs s39) (defBody s39) (defScope s39) .none kV39 dc39 pm39 an39 cd39 ct39), d0, d0, d0, d0, d0, d0, d0, d0, d0, d0, d0, d0, d0, d0, d0, d0, d0, d0, d0, d0, (PySem.W.fnOf "_law_right" "_law_right" (defArgs s60) (defBody s60) (defScope s60) .none kV60 dc60 pm60 an60 cd60 ct60), (PySem.W.fnOf "law" "law" (defArgs s61) (defBody s61) (defScope s61) .none kV61 dc61 pm61 an61 cd61 ct61)] : List FuncData).getD i d0
  have FX : Fx K mg fs fd := ⟨⟨F0, b0, PySem.W.mg_of X G a0⟩, ⟨F1, b1, PySem.W.mg_of X G a1⟩, ⟨F2, b2, PySem.W.mg_of X G a2⟩, ⟨F3, b3, PySem.W.mg_of X G a3⟩, ⟨F4, b4, PySem.W.mg_of X G a4⟩, ⟨F5, b5, PySem.W.mg_of X G a5⟩, ⟨F6, b6, PySem.W.mg_of X G a6⟩, ⟨F7, b7, PySem.W.mg_of X G a7⟩, ⟨F34, b34, PySem.W.mg_of X G a34⟩, ⟨F35, b35, PySem.W.mg_of X G a35⟩, ⟨F36, b36, PySem.W.mg_of X G a36⟩, ⟨F37, b37, PySem.W.mg_of X G a37⟩, ⟨F38, b38, PySem.W.mg_of X G a38⟩, ⟨F39, b39, PySem.W.mg_of X G a39⟩, ⟨F60, b60, PySem.W.mg_of X G a60⟩, ⟨F61, b61, PySem.W.mg_of X G a61⟩, PySem.W.mg_none_of X G z_all, PySem.W.mg_none_of X G z_bool, PySem.W.mg_none_of X G z_enumerate, PySem.W.mg_none_of X G z_int, PySem.W.mg_none_of X G z_isinstance, PySem.W.mg_none_of X G z_len, PySem.W.mg_none_of X G z_list, PySem.W.mg_none_of X G z_max, PySem.W.mg_none_of X G z_range, PySem.W.mg_none_of X G z_sorted, PySem.W.mg_none_of X G z_sum, PySem.W.mg_none_of X G z_tuple, ⟨_, PySem.W.mg_of X G m_MOST⟩⟩
  exact ⟨fd 61, fun s v => .of_eq rfl, fun base _ _ => (lv FX 6).g61⟩
end G
open PySem PySem.W PyProof.Rows
set_option maxRecDepth 100000 in
set_option maxHeartbeats 0 in
theorem PySem.Challenge.cw_unlikeroads_k01_whole_numbers_holds : PySem.Challenge.rw_unlikeroads_k01_whole_numbers.Holds := by
  w_on; o_law; k_head; (case hw => w_witness2)
  k_fill
  refine L2.walk_ofB (l := PySem.Challenge.rw_unlikeroads_k01_whole_numbers) (n := 63) (k := 6) (x := "_law_script") (CX := fun _ => L2.CX0) (sp := fun w => Ab.spF0 (G.TT _) (G.run 6 61) 1) rfl (by decide) rfl ⟨rfl, by decide, by decide⟩ (fun w h Y => PySem.W.kIn_of Y) ?F (fun _ H a ns hl hb hO hS => Ab.law_end hO hS (G.law_true ns hl hb)) (fun _ _ _ _ _ h => h)
  case F =>
    intro w mg fa h KX GN hmg
    refine' G.all_mk KX GN hmg ?a0 ?l0 ?c0 ?k0 ?a1 ?l1 ?c1 ?k1 ?a2 ?l2 ?c2 ?k2 ?a3 ?l3 ?c3 ?k3 ?a4 ?l4 ?c4 ?k4 ?a5 ?l5 ?c5 ?k5 ?a6 ?l6 ?c6 ?k6 ?a7 ?l7 ?c7 ?k7 ?a34 ?l34 ?c34 ?k34 ?a35 ?l35 ?c35 ?k35 ?a36 ?l36 ?c36 ?k36 ?a37 ?l37 ?c37 ?k37 ?a38 ?l38 ?c38 ?k38 ?a39 ?l39 ?c39 ?k39 ?a60 ?l60 ?c60 ?k60 ?a61 ?l61 ?c61 ?k61 ?z_all ?z_bool ?z_enumerate ?z_int ?z_isinstance ?z_len ?z_list ?z_max ?z_range ?z_sorted ?z_sum ?z_tuple ?m_MOST
    (case a0 => k_is)
    (case l0 => k_is)
    (case c0 => k_is)
    (case k0 => k_is)
    (case a1 => k_is)
    (case l1 => k_is)
    (case c1 => k_is)
    (case k1 => k_is)
    (case a2 => k_is)
    (case l2 => k_is)
    (case c2 => k_is)
    (case k2 => k_is)
    (case a3 => k_is)
    (case l3 => k_is)
    (case c3 => k_is)
    (case k3 => k_is)
    (case a4 => k_is)
    (case l4 => k_is)
    (case c4 => k_is)
    (case k4 => k_is)
    (case a5 => k_is)
    (case l5 => k_is)
    (case c5 => k_is)
    (case k5 => k_is)
    (case a6 => k_is)
    (case l6 => k_is)
    (case c6 => k_is)
    (case k6 => k_is)
    (case a7 => k_is)
    (case l7 => k_is)
    (case c7 => k_is)
    (case k7 => k_is)
    (case a34 => k_is)
    (case l34 => k_is)
    (case c34 => k_is)
    (case k34 => k_is)
    (case a35 => k_is)
    (case l35 => k_is)
    (case c35 => k_is)
    (case k35 => k_is)
    (case a36 => k_is)
    (case l36 => k_is)
    (case c36 => k_is)
    (case k36 => k_is)
    (case a37 => k_is)
    (case l37 => k_is)
    (case c37 => k_is)
    (case k37 => k_is)
    (case a38 => k_is)
    (case l38 => k_is)
    (case c38 => k_is)
    (case k38 => k_is)
    (case a39 => k_is)
    (case l39 => k_is)
    (case c39 => k_is)
    (case k39 => k_is)
    (case a60 => k_is)
    (case l60 => k_is)
    (case c60 => k_is)
    (case k60 => k_is)
    (case a61 => k_is)
    (case l61 => k_is)
    (case c61 => k_is)
    (case k61 => k_is)
    (case z_all => k_is)
    (case z_bool => k_is)
    (case z_enumerate => k_is)
    (case z_int => k_is)
    (case z_isinstance => k_is)
    (case z_len => k_is)
    (case z_list => k_is)
    (case z_max => k_is)
    (case z_range => k_is)
    (case z_sorted => k_is)
    (case z_sum => k_is)
    (case z_tuple => k_is)
    (case m_MOST => k_is)

